import PyProof.Rows.All
import Wide.All
import OpenK.AllK
import Wide.FinOn
import KE.KStateDown
import HandS.ForMost
import HandS.ForExc
import HandS.Defaults
import HandS.ExcInit
import HandS.HeadHook2
import HandS.Wide
import PyProof.NoPylong
import HandS.Flow
import HandS.IsInst
import HandS.Gcd
import HandS.TupAny
import HandS.Walk
import HandS.Comp
import HandS.ExcIs
import HandS.ExcField
import HandS.ClsMeth
import PyProof.ReprRoads
import HandS.Words
import HandS.HeadEnd
import HandS.HeadWalk
import HandS.EndBits
import HandS.HeadHook1
import PySem.Challenge.RW_bestlooks_k00_errors
import HandS.Head0
import HandS.Head1
import HandS.Head2
import PyProof.ReprLen
import PyProof.Rows.ReprOcc
import PyProof.Rows.RegStrFacts
set_option Elab.async false
set_option linter.all false
set_option maxRecDepth 100000
set_option maxHeartbeats 0
/-! L3A: data trees, their place in the abstract heap, the store, judgements by an evaluator's outcome. -/
namespace L3
open PySem PySem.Spec PyProof.Rows L2

/-! ### names as numbers -/
/-- the digits of a number, the greatest first -/
def dg : Nat → Nat → List Nat
  | 0, _ => []
  | k + 1, n => if n = 0 then [] else dg k (n / 256) ++ [n % 256]
def rd (l : List Nat) : Nat := l.foldl (fun a d => a * 256 + d) 0
theorem rd_app (l : List Nat) (d : Nat) : rd (l ++ [d]) = rd l * 256 + d := by
  unfold rd
  rw [List.foldl_append]
  rfl
theorem rd_dg : ∀ k n, n ≤ k → rd (dg k n) = n
  | 0, n, h => by
    have : n = 0 := by omega
    subst this
    rfl
  | k + 1, n, h => by
    unfold dg
    by_cases e : n = 0
    · rw [if_pos e, e]
      rfl
    · rw [if_neg e, rd_app, rd_dg k (n / 256) (by omega)]
      omega
/-- the name that a number stands for -/
def nm (n : Nat) : Str := ⟨(dg n n).toArray⟩
theorem nm_inj {a b : Nat} (h : nm a = nm b) : a = b := by
  have h1 : (dg a a).toArray = (dg b b).toArray := congrArg Str.cps h
  have h2 : dg a a = dg b b := by simpa using congrArg Array.toList h1
  rw [← rd_dg a a (Nat.le_refl _), h2, rd_dg b b (Nat.le_refl _)]

/-! ### data -/
inductive PV where
  | non | bl (b : Bool) | int (i : Int) | str (s : Str)
  | tup (xs : List PV) | lst (xs : List PV)
  /-- a list that is read alone (the script) -/
  | ro (xs : List PV)
  | dct (kvs : List (Key × PV))
  | ins (c : Nat) (fs : List (Nat × PV))
  | exc (c : Nat) (fs : List (Nat × PV))
  | fn (f : Nat) | cls (c : Nat) | ty (n : String)
  | m (i : Nat)
  deriving Inhabited
/-- what stands in the store -/
inductive MO where
  | frz (v : PV) | lst (xs : List PV) | dct (kvs : List (Key × PV)) | ins (c : Nat) (fs : List (Nat × PV))
  deriving Inhabited
abbrev Sto := List MO
abbrev Rho := List (Option PV)

inductive Res (α : Type) where
  | ok (a : α) (st : Sto) | err (c : Nat) (fs : List (Nat × PV)) (st : Sto) | bad
abbrev M (α : Type) := Sto → Res α
def M.pure {α : Type} (a : α) : M α := fun st => .ok a st
def Res.andThen {α β : Type} (r : Res α) (f : α → M β) : Res β := match r with
  | .ok a st => f a st
  | .err c fs st => .err c fs st
  | .bad => .bad
def M.bind {α β : Type} (x : M α) (f : α → M β) : M β := fun st => (x st).andThen f
instance : Monad M where
  pure := M.pure
  bind := M.bind
def M.bad {α : Type} : M α := fun _ => .bad

/-! ### how data lies in the heap -/
section
variable (K : PySem.W.Frag) (μ : List Addr) (F : Hp)
mutual
inductive En : PV → V → Prop
  | non : En .non .non
  | bl (b : Bool) : En (.bl b) (.bl b)
  | int (i : Int) : En (.int i) (.int i)
  | str (s : Str) : En (.str s) (.str s)
  | tup {xs : List PV} {a : Addr} {vs : List V} (h : SqT K F a vs) (r : Ens xs vs) : En (.tup xs) (.ref a)
  | lst {xs : List PV} {a : Addr} {vs : List V} (h : F a = some (.lst vs)) (r : Ens xs vs) : En (.lst xs) (.ref a)
  | ro {xs : List PV} {a : Addr} {vs : List V} (h : SqL K F a vs) (r : Ens xs vs) : En (.ro xs) (.ref a)
  | dct {kvs : List (Key × PV)} {a : Addr} {ks : List (Key × V)} (h : F a = some (.dK ks)) (r : EnK kvs ks) : En (.dct kvs) (.ref a)
  | ins {c : Nat} {fs : List (Nat × PV)} {a dx : Addr} {gs : List (Str × V)} (h : F a = some (.ins (He.ga K (nm c)) dx gs)) (r : EnF fs gs) : En (.ins c fs) (.ref a)
  | exc {c : Nat} {fs : List (Nat × PV)} {a d : Addr} {gs : List (Str × V)} (h : F a = some (exo a (He.ga K (nm c)) (some d))) (h2 : F d = some (exd d gs)) (r : EnF fs gs) : En (.exc c fs) (.ref a)
  | exc0 {c : Nat} {a : Addr} (h : F a = some (exo a (He.ga K (nm c)) none)) : En (.exc c []) (.ref a)
  | fn (f : Nat) : En (.fn f) (.ref (He.ga K (nm f)))
  | cls (c : Nat) : En (.cls c) (.ref (He.ga K (nm c)))
  | ty (n : String) : En (.ty n) (.ty n)
  | m {i : Nat} {a : Addr} (h : μ[i]? = some a) : En (.m i) (.ref a)
inductive Ens : List PV → List V → Prop
  | nil : Ens [] []
  | cons {x : PV} {v : V} {xs : List PV} {vs : List V} (h : En x v) (r : Ens xs vs) : Ens (x :: xs) (v :: vs)
inductive EnF : List (Nat × PV) → List (Str × V) → Prop
  | nil : EnF [] []
  | cons {f : Nat} {x : PV} {v : V} {xs : List (Nat × PV)} {vs : List (Str × V)} (h : En x v) (r : EnF xs vs) : EnF ((f, x) :: xs) ((nm f, v) :: vs)
inductive EnK : List (Key × PV) → List (Key × V) → Prop
  | nil : EnK [] []
  | cons {k : Key} {x : PV} {v : V} {xs : List (Key × PV)} {vs : List (Key × V)} (h : En x v) (r : EnK xs vs) : EnK ((k, x) :: xs) ((k, v) :: vs)
end
end

theorem same_sqT {K : PySem.W.Frag} {H H' : Hp} {a : Addr} {xs : List V} (e : Same H H') (h : SqT K H a xs) : SqT K H' a xs := by
  rcases h with (h | ⟨o, h⟩) | h
  · exact .inl (.inl (e _ _ h))
  · exact .inl (.inr ⟨o, e _ _ h⟩)
  · exact .inr h
/-- a longer list of the store's addresses -/
def Pre (μ μ' : List Addr) : Prop := ∀ (i : Nat) (a : Addr), μ[i]? = some a → μ'[i]? = some a
section
variable {K : PySem.W.Frag} {μ μ' : List Addr} {F F' : Hp}
mutual
theorem En.mono (p : Pre μ μ') (s : Same F F') : ∀ {x : PV} {v : V}, En K μ F x v → En K μ' F' x v
  | _, _, .non => .non
  | _, _, .bl b => .bl b
  | _, _, .int i => .int i
  | _, _, .str z => .str z
  | _, _, .tup h r => .tup (same_sqT s h) (Ens.mono p s r)
  | _, _, .lst h r => .lst (s _ _ h) (Ens.mono p s r)
  | _, _, .ro h r => .ro (s.seq h) (Ens.mono p s r)
  | _, _, .dct h r => .dct (s _ _ h) (EnK.mono p s r)
  | _, _, .ins h r => .ins (s _ _ h) (EnF.mono p s r)
  | _, _, .exc h h2 r => .exc (s _ _ h) (s _ _ h2) (EnF.mono p s r)
  | _, _, .exc0 h => .exc0 (s _ _ h)
  | _, _, .fn f => .fn f
  | _, _, .cls c => .cls c
  | _, _, .ty n => .ty n
  | _, _, .m h => .m (p _ _ h)
theorem Ens.mono (p : Pre μ μ') (s : Same F F') : ∀ {x : List PV} {v : List V}, Ens K μ F x v → Ens K μ' F' x v
  | _, _, .nil => .nil
  | _, _, .cons h r => .cons (En.mono p s h) (Ens.mono p s r)
theorem EnF.mono (p : Pre μ μ') (s : Same F F') : ∀ {x : List (Nat × PV)} {v : List (Str × V)}, EnF K μ F x v → EnF K μ' F' x v
  | _, _, .nil => .nil
  | _, _, .cons h r => .cons (En.mono p s h) (EnF.mono p s r)
theorem EnK.mono (p : Pre μ μ') (s : Same F F') : ∀ {x : List (Key × PV)} {v : List (Key × V)}, EnK K μ F x v → EnK K μ' F' x v
  | _, _, .nil => .nil
  | _, _, .cons h r => .cons (En.mono p s h) (EnK.mono p s r)
end
theorem Ens.length : ∀ {xs : List PV} {vs : List V}, Ens K μ F xs vs → xs.length = vs.length
  | _, _, .nil => rfl
  | _, _, .cons _ r => by rw [List.length_cons, List.length_cons, Ens.length r]
theorem Ens.get : ∀ {xs : List PV} {vs : List V} {i : Nat} {x : PV}, Ens K μ F xs vs → xs[i]? = some x → ∃ v, vs[i]? = some v ∧ En K μ F x v
  | _, _, _, _, .nil, e => by simp at e
  | _, _, 0, _, .cons h _, e => by
    simp at e
    subst e
    exact ⟨_, rfl, h⟩
  | _, _, i + 1, x, .cons _ r, e => by
    obtain ⟨v, h1, h2⟩ := Ens.get (i := i) (x := x) r (by simpa using e)
    exact ⟨v, by simpa using h1, h2⟩
theorem Ens.getV : ∀ {xs : List PV} {vs : List V} {i : Nat} {v : V}, Ens K μ F xs vs → vs[i]? = some v → ∃ x, xs[i]? = some x ∧ En K μ F x v
  | _, _, _, _, .nil, e => by simp at e
  | _, _, 0, _, .cons h _, e => by
    simp at e
    subst e
    exact ⟨_, rfl, h⟩
  | _, _, i + 1, x, .cons _ r, e => by
    obtain ⟨v, h1, h2⟩ := Ens.getV (i := i) (v := x) r (by simpa using e)
    exact ⟨v, by simpa using h1, h2⟩
theorem Ens.append : ∀ {xs ys : List PV} {vs ws : List V}, Ens K μ F xs vs → Ens K μ F ys ws → Ens K μ F (xs ++ ys) (vs ++ ws)
  | _, _, _, _, .nil, s => s
  | _, _, _, _, .cons h r, s => .cons h (Ens.append r s)
theorem Ens.one {x : PV} {v : V} (h : En K μ F x v) : Ens K μ F [x] [v] := .cons h .nil
theorem Ens.set {x : PV} {v : V} (h : En K μ F x v) : ∀ {xs : List PV} {vs : List V} (i : Nat), Ens K μ F xs vs → Ens K μ F (xs.set i x) (vs.set i v)
  | _, _, _, .nil => .nil
  | _, _, 0, .cons _ r => .cons h r
  | _, _, i + 1, .cons q r => .cons q (Ens.set h i r)
theorem Ens.take : ∀ {xs : List PV} {vs : List V} (n : Nat), Ens K μ F xs vs → Ens K μ F (xs.take n) (vs.take n)
  | _, _, 0, _ => .nil
  | _, _, _ + 1, .nil => .nil
  | _, _, n + 1, .cons h r => .cons h (Ens.take n r)
theorem Ens.drop : ∀ {xs : List PV} {vs : List V} (n : Nat), Ens K μ F xs vs → Ens K μ F (xs.drop n) (vs.drop n)
  | _, _, 0, r => r
  | _, _, _ + 1, .nil => .nil
  | _, _, n + 1, .cons _ r => Ens.drop n r
end

/-! ### the store in the heap -/
/-- the object at a bears what the store tells -/
def ObR (K : PySem.W.Frag) (μ : List Addr) (F H : Hp) (a : Addr) : MO → Prop
  | .frz v => En K μ F v (.ref a)
  | .lst xs => F a = none ∧ ∃ vs, H a = some (.lst vs) ∧ Ens K μ F xs vs
  | .dct kvs => F a = none ∧ ∃ ks, H a = some (.dK ks) ∧ EnK K μ F kvs ks
  | .ins c fs => F a = none ∧ ∃ dx gs, H a = some (.ins (He.ga K (nm c)) dx gs) ∧ EnF K μ F fs gs
structure RSt (K : PySem.W.Frag) (μ : List Addr) (F H : Hp) (st : Sto) : Prop where
  len : μ.length = st.length
  nd : μ.Nodup
  sub : Same F H
  ob : ∀ (i : Nat) (a : Addr) (o : MO), μ[i]? = some a → st[i]? = some o → ObR K μ F H a o
  there : ∀ a ∈ μ, H a ≠ none
/-- what has come about: more in the store, more frozen, all else as it was -/
structure Ext (μ : List Addr) (F H : Hp) (μ' : List Addr) (F' H' : Hp) : Prop where
  pre : Pre μ μ'
  sub : Same F F'
  keep : ∀ a o, H a = some o → a ∉ μ → H' a = some o
  new : ∀ a, a ∈ μ' → a ∉ μ → H a = none
  newF : ∀ a, F' a ≠ none → F a = none → H a ≠ none → a ∈ μ
theorem Ext.refl (μ : List Addr) (F H : Hp) : Ext μ F H μ F H := ⟨fun _ _ h => h, fun _ _ h => h, fun _ _ h _ => h, fun _ h n => absurd h n, fun _ h n _ => absurd n h⟩
theorem Ext.trans {μ μ1 μ2 : List Addr} {F F1 F2 H H1 H2 : Hp} (a : Ext μ F H μ1 F1 H1) (b : Ext μ1 F1 H1 μ2 F2 H2) : Ext μ F H μ2 F2 H2 where
  pre := fun i c h => b.pre i c (a.pre i c h)
  sub := fun c o h => b.sub c o (a.sub c o h)
  keep := fun c o h n => b.keep c o (a.keep c o h n) fun z => by
    have := a.new c z n
    rw [this] at h
    cases h
  new := fun c h n => by
    by_cases hc : c ∈ μ1
    · exact a.new c hc n
    · have h1 := b.new c h hc
      cases e : H c with
      | none => rfl
      | some o =>
        have := a.keep c o e n
        rw [h1] at this
        cases this
  newF := fun c h2 h0 hH => by
    by_cases h1 : F1 c = none
    · cases e : H c with
      | none => exact absurd e hH
      | some o =>
        by_cases hm : c ∈ μ
        · exact hm
        · have k := a.keep c o e hm
          have hc := b.newF c h2 h1 (by rw [k]; exact fun z => nomatch z)
          have := a.new c hc hm
          rw [this] at e
          cases e
    · exact a.newF c h1 h0 hH
/-- an environment in the slots -/
def REnv (K : PySem.W.Frag) (μ : List Addr) (F : Hp) (ρ : Rho) (σ : L2.St) : Prop :=
  ρ.length = σ.length ∧ ∀ (i : Nat) (x : PV), ρ[i]? = some (some x) → ∃ v, σ[i]? = some (some v) ∧ En K μ F x v
theorem REnv.mono {K : PySem.W.Frag} {μ μ' : List Addr} {F F' : Hp} {ρ : Rho} {σ : L2.St} (h : REnv K μ F ρ σ) (p : Pre μ μ') (s : Same F F') : REnv K μ' F' ρ σ :=
  ⟨h.1, fun i x e => let ⟨v, a, b⟩ := h.2 i x e; ⟨v, a, b.mono p s⟩⟩
theorem REnv.set {K : PySem.W.Frag} {μ : List Addr} {F : Hp} {ρ : Rho} {σ : L2.St} {x : PV} {v : V} (h : REnv K μ F ρ σ) (i : Nat) (e : En K μ F x v) : REnv K μ F (ρ.set i (some x)) (σ.set i (some v)) := by
  refine ⟨by rw [List.length_set, List.length_set, h.1], fun j y q => ?_⟩
  by_cases hj : i = j
  · subst hj
    have hl : i < ρ.length := by
      have := (List.getElem?_eq_some_iff.mp q).1
      simpa using this
    rw [List.getElem?_set_self hl] at q
    cases q
    exact ⟨v, List.getElem?_set_self (by rw [← h.1]; exact hl), e⟩
  · rw [List.getElem?_set_ne hj] at q ⊢
    exact h.2 j y q

/-! ### judgements -/
/-- an exception's fields at its own dict -/
def XdR (K : PySem.W.Frag) (μ : List Addr) (F H : Hp) (fs : List (Nat × PV)) : Option Addr → Prop
  | some d => ∃ gs, H d = some (.xd gs) ∧ EnF K μ F fs gs
  | none => fs = []
def Post {α β : Type} (K : PySem.W.Frag) (R : List Addr → Hp → α → β → Prop) (W : XK) (Q : β → Hp → Prop) (μ : List Addr) (F H : Hp) : Res α → Prop
  | .ok x st => ∀ μ' F' H' v, Ext μ F H μ' F' H' → RSt K μ' F' H' st → R μ' F' x v → Q v H'
  | .err c fs st => ∀ μ' F' H' d, Ext μ F H μ' F' H' → RSt K μ' F' H' st → XdR K μ' F' H' fs d → W (.ref (He.ga K (nm c))) d H'
  | .bad => False
theorem Post.from {α β : Type} {K : PySem.W.Frag} {R : List Addr → Hp → α → β → Prop} {W : XK} {Q : β → Hp → Prop} {μ μ1 : List Addr} {F F1 H H1 : Hp} {r : Res α} (h : Post K R W Q μ F H r) (x : Ext μ F H μ1 F1 H1) : Post K R W Q μ1 F1 H1 r := by
  cases r with
  | ok a st => exact fun μ' F' H' v e => h μ' F' H' v (x.trans e)
  | err c fs st => exact fun μ' F' H' d e => h μ' F' H' d (x.trans e)
  | bad => exact h
theorem Post.imp {α β : Type} {K : PySem.W.Frag} {R : List Addr → Hp → α → β → Prop} {W W' : XK} {Q Q' : β → Hp → Prop} {μ : List Addr} {F H : Hp} {r : Res α} (h : Post K R W Q μ F H r) (hw : ∀ c d H, W c d H → W' c d H) (hq : ∀ v H, Q v H → Q' v H) : Post K R W' Q' μ F H r := by
  cases r with
  | ok a st => exact fun μ' F' H' v e s q => hq _ _ (h μ' F' H' v e s q)
  | err c fs st => exact fun μ' F' H' d e s q => hw _ _ _ (h μ' F' H' d e s q)
  | bad => exact h
abbrev RB : List Addr → Hp → Bool → Bool → Prop := fun _ _ a b => a = b
/-- an outcome that goes on -/
theorem Post.bind {α β γ δ : Type} {K : PySem.W.Frag} {R : List Addr → Hp → α → β → Prop} {R' : List Addr → Hp → γ → δ → Prop} {W : XK} {Q : δ → Hp → Prop} {μ : List Addr} {F H : Hp} {r : Res α} {f : α → M γ}
    (h : Post K R' W Q μ F H (r.andThen f)) : Post K R W (fun v H1 => ∃ μ1 F1 st x, Ext μ F H μ1 F1 H1 ∧ RSt K μ1 F1 H1 st ∧ R μ1 F1 x v ∧ Post K R' W Q μ1 F1 H1 (f x st)) μ F H r := by
  cases r with
  | ok a st => exact fun μ' F' H' v e s q => ⟨μ', F', st, a, e, s, q, Post.from (r := f a st) h e⟩
  | err c fs st => exact h
  | bad => exact h
/-- the reading of what the evaluator runs as m -/
def TXm {α β : Type} (K : PySem.W.Frag) (R : List Addr → Hp → α → β → Prop) (W : WX) (m : Rho → M α) : L2.St → Hp → (β → Hp → Prop) → Prop := fun σ H Q =>
  ∃ μ F ρ st, REnv K μ F ρ σ ∧ RSt K μ F H st ∧ Post K R (fun c d H => W c d σ H) Q μ F H (m ρ st)
abbrev TEm (K : PySem.W.Frag) (W : WX) (m : Rho → M PV) : TE := TXm K (En K) W m
abbrev TTm (K : PySem.W.Frag) (W : WX) (m : Rho → M Bool) : TT := TXm K RB W m
abbrev TAm (K : PySem.W.Frag) (W : WX) (m : Rho → M (List PV)) : TA := TXm K (Ens K) W m
theorem PE.imp {X : Cx} {e : Expr} {t t' : TE} (h : PE X e t) (i : ∀ σ H Q, t' σ H Q → t σ H Q) : PE X e t' := ⟨fun pins s σ H Q I q => h.run pins s σ H Q I (i σ H Q q)⟩
theorem PT.imp {X : Cx} {e : Expr} {t t' : TT} (h : PT X e t) (i : ∀ σ H Q, t' σ H Q → t σ H Q) : PT X e t' := ⟨fun pins s σ H Q I q => h.run pins s σ H Q I (i σ H Q q)⟩
theorem PA.imp {X : Cx} {es : List Expr} {t t' : TA} (h : PA X es t) (i : ∀ σ H Q, t' σ H Q → t σ H Q) : PA X es t' := ⟨fun pos pins s σ H Q I q => h.run pos pins s σ H Q I (i σ H Q q)⟩
theorem PS.imp {X : Cx} {e : Stmt} {t t' : TS} (h : PS X e t) (i : ∀ D σ H, t' D σ H → t D σ H) : PS X e t' := ⟨fun pins s σ H D I q => h.run pins s σ H D I (i D σ H q)⟩
theorem PSs.imp {X : Cx} {e : List Stmt} {t t' : TS} (h : PSs X e t) (i : ∀ D σ H, t' D σ H → t D σ H) : PSs X e t' := ⟨fun pins s σ H D I q => h.run pins s σ H D I (i D σ H q)⟩
/-- a relation that more does not harm -/
def MonoR {α β : Type} (R : List Addr → Hp → α → β → Prop) : Prop := ∀ (μ μ' : List Addr) (F F' : Hp) (x : α) (v : β), Pre μ μ' → Same F F' → R μ F x v → R μ' F' x v
theorem mono_en {K : PySem.W.Frag} : MonoR (En K) := fun _ _ _ _ _ _ p s h => h.mono p s
theorem mono_ens {K : PySem.W.Frag} : MonoR (Ens K) := fun _ _ _ _ _ _ p s h => h.mono p s
theorem mono_rb : MonoR RB := fun _ _ _ _ _ _ _ _ h => h
section
variable {K : PySem.W.Frag} {W : WX} {σ : L2.St} {H : Hp} {α β γ δ ε ζ : Type} {R : List Addr → Hp → α → β → Prop} {R1 : List Addr → Hp → γ → δ → Prop} {R2 : List Addr → Hp → ε → ζ → Prop} {Q : β → Hp → Prop}
/-- behind one part -/
theorem TX.one {ma : Rho → M γ} {f : γ → Rho → M α} (h : TXm K R W (fun ρ => M.bind (ma ρ) fun v => f v ρ) σ H Q) :
    TXm K R1 W ma σ H (fun x H1 => ∃ μ F ρ st v, REnv K μ F ρ σ ∧ RSt K μ F H1 st ∧ R1 μ F v x ∧ Post K R (fun c d H => W c d σ H) Q μ F H1 (f v ρ st)) := by
  obtain ⟨μ, F, ρ, st, re, rs, p⟩ := h
  refine ⟨μ, F, ρ, st, re, rs, ?_⟩
  exact (Post.bind (R := R1) (r := ma ρ st) (f := fun v => f v ρ) p).imp (fun _ _ _ h => h) fun v H1 ⟨μ1, F1, st1, x, e, s, q, p⟩ => ⟨μ1, F1, ρ, st1, x, re.mono e.pre e.sub, s, q, p⟩
/-- behind two parts -/
theorem TX.two (mo : MonoR R1) {ma : Rho → M γ} {mb : Rho → M ε} {f : γ → ε → Rho → M α} (h : TXm K R W (fun ρ => M.bind (ma ρ) fun v => M.bind (mb ρ) fun w => f v w ρ) σ H Q) :
    TXm K R1 W ma σ H (fun x H1 => TXm K R2 W mb σ H1 fun y H2 => ∃ μ F ρ st v w, REnv K μ F ρ σ ∧ RSt K μ F H2 st ∧ R1 μ F v x ∧ R2 μ F w y ∧ Post K R (fun c d H => W c d σ H) Q μ F H2 (f v w ρ st)) := by
  obtain ⟨μ, F, ρ, st, re, rs, p⟩ := h
  refine ⟨μ, F, ρ, st, re, rs, ?_⟩
  refine (Post.bind (R := R1) (r := ma ρ st) (f := fun v => M.bind (mb ρ) fun w => f v w ρ) p).imp (fun _ _ _ h => h) fun x H1 ⟨μ1, F1, st1, v, e1, s1, ev, q⟩ => ?_
  refine ⟨μ1, F1, ρ, st1, re.mono e1.pre e1.sub, s1, ?_⟩
  exact (Post.bind (R := R2) (r := mb ρ st1) (f := fun y => f v y ρ) q).imp (fun _ _ _ h => h) fun y H2 ⟨μ2, F2, st2, w, e2, s2, ew, q2⟩ =>
    ⟨μ2, F2, ρ, st2, v, w, (re.mono e1.pre e1.sub).mono e2.pre e2.sub, s2, mo _ _ _ _ _ _ e2.pre e2.sub ev, ew, q2⟩
theorem TX.mono {m : Rho → M α} {Q' : β → Hp → Prop} (h : TXm K R W m σ H Q) (i : ∀ v H, Q v H → Q' v H) : TXm K R W m σ H Q' := by
  obtain ⟨μ, F, ρ, st, re, rs, p⟩ := h
  exact ⟨μ, F, ρ, st, re, rs, p.imp (fun _ _ _ h => h) i⟩
/-- a value that is at once there -/
theorem post_here {Wx : XK} {Q : β → Hp → Prop} {μ : List Addr} {F : Hp} {x : α} {v : β} {st : Sto} (p : Post K R Wx Q μ F H (.ok x st)) (s : RSt K μ F H st) (e : R μ F x v) : Q v H :=
  p μ F H v (Ext.refl _ _ _) s e
end
end L3
/-! L3B: the evaluator. -/
namespace L3
open PySem PySem.Spec PyProof.Rows L2

/-- a type that isinstance asks for -/
inductive CTy where
  | bi (n : String) | own (c : Nat)
  deriving DecidableEq
inductive Blt where
  | len | int | str | repr | list | tuple | abs | gcd | sum | max | min | all | any | range | enum | zip | bool | rev | sorted
  deriving DecidableEq
inductive CT where
  | nm (i : Nat) | tup (l : List CT)
inductive CE where
  | var (i : Nat) | cst (v : PV)
  | tup (es : List CE) | lst (mu : Bool) (es : List CE) | dct (mu : Bool) (ks : List Key) (es : List CE)
  | bin (op : Operator) (mu : Bool) (a b : CE) | neg (a : CE) | not (a : CE)
  | and (a b : CE) | or (a b : CE)
  | cmp (op : CmpOp) (a b : CE) | chain (op op' : CmpOp) (a b c : CE)
  | ife (t a b : CE)
  | call (f : Nat) (es : List CE) | mk (c : Nat) (es : List CE) | blt (b : Blt) (mu : Bool) (es : List CE)
  | isi (e : CE) (ts : List CTy)
  | meth (o : CE) (m : Nat) (es : List CE)
  | attr (o : CE) (f : Nat) | sub (o i : CE) | slice (o : CE) (lo hi : Option CE) | rev (o : CE)
  | comp (mu : Bool) (elt : CE) (tg : CT) (own : List Nat) (it : CE) (ifs : List CE)
  deriving Inhabited
inductive CS where
  | expr (e : CE) | asg (tg : CT) (e : CE) | asgSub (o i e : CE) | asgAttr (o : CE) (f : Nat) (e : CE)
  | ret (e : CE) | retN | pass | brk | cont
  | ife (t : CE) (a b : List CS) | for_ (tg : CT) (it : CE) (body : List CS) | while_ (t : CE) (body : List CS)
  | raise (c : Nat) (es : List CE)
  | app (i : Nat) (e : CE)
  deriving Inhabited

structure Fd where
  np : Nat
  ns : Nat
  body : List CS
  dfl : List PV := []
  refs : List Bool := []
structure Cd where
  init : Nat
  exc : Bool
  mu : Bool
  meths : List (Nat × Nat) := []
structure Tab where
  fns : List (Nat × Fd)
  cds : List (Nat × Cd)
  isa : List (Nat × CTy × Bool)

/-! ### parts of the store -/
def lineOk (n : Nat) : Bool := Nat.ble n 16777216
def seqV (st : Sto) : PV → Option (Bool × List PV)
  | .tup xs => some (true, xs)
  | .lst xs => some (false, xs)
  | .ro xs => some (false, xs)
  | .m i => match st[i]? with
    | some (.lst xs) => some (false, xs)
    | some (.frz (.lst xs)) => some (false, xs)
    | _ => none
  | _ => none
/-- a list, not the read-only one -/
def lstV (st : Sto) : PV → Option (List PV)
  | .lst xs => some xs
  | .m i => match st[i]? with
    | some (.lst xs) => some xs
    | some (.frz (.lst xs)) => some xs
    | _ => none
  | _ => none
def dctV (st : Sto) : PV → Option (List (Key × PV))
  | .dct xs => some xs
  | .m i => match st[i]? with
    | some (.dct xs) => some xs
    | some (.frz (.dct xs)) => some xs
    | _ => none
  | _ => none
def insV (st : Sto) : PV → Option (Nat × List (Nat × PV))
  | .ins c fs => some (c, fs)
  | .m i => match st[i]? with
    | some (.ins c fs) => some (c, fs)
    | some (.frz (.ins c fs)) => some (c, fs)
    | _ => none
  | _ => none
def lift {α : Type} (o : Option α) : M α := fun st => match o with
  | some a => .ok a st
  | none => .bad
def withSt {α : Type} (f : Sto → Option α) : M α := fun st => match f st with
  | some a => .ok a st
  | none => .bad
/-- a new list, for the store or for good -/
def newL (mu : Bool) (xs : List PV) : M PV := fun st => match lineOk xs.length with
  | true => (match mu with
    | true => .ok (.m st.length) (st ++ [.lst xs])
    | false => .ok (.lst xs) st)
  | false => .bad
def newT (xs : List PV) : M PV := fun st => match lineOk xs.length with
  | true => .ok (.tup xs) st
  | false => .bad
def newD (mu : Bool) (xs : List (Key × PV)) : M PV := fun st => match Nat.ble xs.length 15 with
  | true => (match mu with
    | true => .ok (.m st.length) (st ++ [.dct xs])
    | false => .ok (.dct xs) st)
  | false => .bad

/-! ### operators -/
def mulOk (i j : Int) : Bool := !(decide (Builtin.Int.intBits i > shortFactorBits) && decide (Builtin.Int.intBits j > shortFactorBits) && Builtin.Int.intTooBig (Builtin.Int.intBits i + Builtin.Int.intBits j))
def powOk (i j : Int) : Bool := decide (0 ≤ j) && (decide (j ≤ 1000000) && decide (i.natAbs < 2 ^ 64))
def binV (op : Operator) (mu : Bool) (v w : PV) : M PV := match op with
  | .Add => (match v, w with
    | .int i, .int j => M.pure (.int (i + j))
    | .str a, .str b => (match lineOk (a.length + b.length) with
      | true => M.pure (.str (a ++ b))
      | false => M.bad)
    | v, w => fun st => match lstV st v, lstV st w with
      | some xs, some ys => newL mu (xs ++ ys) st
      | _, _ => .bad)
  | .Sub => (match v, w with
    | .int i, .int j => M.pure (.int (i - j))
    | _, _ => M.bad)
  | .Mult => (match v, w with
    | .int i, .int j => (match mulOk i j with
      | true => M.pure (.int (i * j))
      | false => M.bad)
    | _, _ => M.bad)
  | .FloorDiv => (match v, w with
    | .int i, .int j => (match decide (j = 0) || Builtin.divisionGoesByPylong i j with
      | false => M.pure (.int (i.fdiv j))
      | true => M.bad)
    | _, _ => M.bad)
  | .Mod => (match v, w with
    | .int i, .int j => (match decide (j = 0) with
      | false => M.pure (.int (i.fmod j))
      | true => M.bad)
    | _, _ => M.bad)
  | .Pow => (match v, w with
    | .int i, .int j => (match powOk i j with
      | true => M.pure (.int (i ^ j.toNat))
      | false => M.bad)
    | _, _ => M.bad)
  | _ => M.bad
def negV : PV → M PV
  | .int i => M.pure (.int (-i))
  | _ => M.bad
def truV (st : Sto) : PV → Option Bool
  | .non => some false
  | .bl b => some b
  | .int i => some (i != 0)
  | v => (seqV st v).map fun p => !p.2.isEmpty
/-- data that == looks through -/
def dataV : Nat → PV → Option PyData
  | _, .non => some .none
  | _, .bl b => some (.bool b)
  | _, .int i => some (.int i)
  | _, .str s => (match PyData.strOk s with
    | true => some (.str s)
    | false => none)
  | k + 1, .tup xs => (xs.mapM (dataV k)).map .tuple
  | k + 1, .lst xs => (xs.mapM (dataV k)).map .list
  | _, _ => none
def topV (st : Sto) : PV → PV
  | .m i => (match st[i]? with
    | some (.lst xs) => .lst xs
    | some (.frz w) => w
    | _ => .m i)
  | v => v
def isNon : PV → Bool
  | .non => true
  | _ => false
/-- two texts -/
def twoS : PV → PV → Option (Str × Str)
  | .str a, .str b => some (a, b)
  | _, _ => none
def eqD (v w : PV) : M PV := fun st => match dataV 12 (topV st v), dataV 12 (topV st w) with
  | some a, some b => .ok (.bl (PyData.eqv a b)) st
  | _, _ => .bad
def neD (v w : PV) : M PV := fun st => match dataV 12 (topV st v), dataV 12 (topV st w) with
  | some a, some b => .ok (.bl (!PyData.eqv a b)) st
  | _, _ => .bad
def eqV (v w : PV) : M PV := match twoS v w with
  | some p => M.pure (.bl (decide (p.1 = p.2)))
  | none => eqD v w
def neV (v w : PV) : M PV := match twoS v w with
  | some p => M.pure (.bl (!decide (p.1 = p.2)))
  | none => neD v w
def cmpV (op : CmpOp) (v w : PV) : M PV := match op with
  | .Lt => (match v, w with
    | .int i, .int j => M.pure (.bl (decide (i < j)))
    | _, _ => M.bad)
  | .LtE => (match v, w with
    | .int i, .int j => M.pure (.bl (decide (i ≤ j)))
    | _, _ => M.bad)
  | .Gt => (match v, w with
    | .int i, .int j => M.pure (.bl (decide (j < i)))
    | _, _ => M.bad)
  | .GtE => (match v, w with
    | .int i, .int j => M.pure (.bl (decide (j ≤ i)))
    | _, _ => M.bad)
  | .Eq => eqV v w
  | .NotEq => neV v w
  | .Is => (match w with
    | .non => M.pure (.bl (isNon v))
    | _ => M.bad)
  | .IsNot => (match w with
    | .non => M.pure (.bl (!isNon v))
    | _ => M.bad)
  | _ => M.bad

/-! ### names, tests, displays, parts -/
def normV (st : Sto) : PV → PV
  | .m i => (match st[i]? with
    | some (.frz w) => w
    | _ => .m i)
  | v => v
def getV (i : Nat) (ρ : Rho) : M PV := fun st => match ρ[i]? with
  | some (some v) => .ok (normV st v) st
  | _ => .bad
def testV (v : PV) : M Bool := fun st => match truV st v with
  | some b => .ok b st
  | none => .bad
def boolV : PV → M Bool
  | .bl b => M.pure b
  | _ => M.bad
def consA (x : M PV) (r : M (List PV)) : M (List PV) := M.bind x fun v => M.bind r fun vs => M.pure (v :: vs)
/-- the place that an index means -/
def atP (xs : List PV) (i : Int) : Option PV := atI xs i
def valP (kvs : List (Key × PV)) (k : Key) : Option PV := (kvs.find? fun kv => decide (kv.1 = k)).map (·.2)
def putP (kvs : List (Key × PV)) (k : Key) (v : PV) : List (Key × PV) :=
  if (kvs.any fun kv => decide (kv.1 = k)) = true then kvs.map (fun kv => if kv.1 = k then (kv.1, v) else kv) else kvs ++ [(k, v)]
def subV (v i : PV) : M PV := fun st => match i with
  | .int k => (match seqV st v with
    | some (_, xs) => (match atP xs k with
      | some x => .ok (normV st x) st
      | none => .bad)
    | none => .bad)
  | .str k => (match dctV st v with
    | some kvs => (match valP kvs (Sum.inr k) with
      | some x => .ok (normV st x) st
      | none => .bad)
    | none => .bad)
  | _ => .bad
def optI : Option PV → Option (Option Int)
  | none => some none
  | some (.int i) => some (some i)
  | some _ => none
def cutP (xs : List PV) (lo hi : Option Int) : List PV := (xs.drop (HT.sIx xs.length 0 lo)).take (HT.sIx xs.length xs.length hi - HT.sIx xs.length 0 lo)
def cutV' (mu : Bool) (v : PV) (lo hi : Option Int) : M PV := fun st => match seqV st v with
  | some (false, xs) => newL mu (cutP xs lo hi) st
  | some (true, xs) => .ok (.tup (cutP xs lo hi)) st
  | none => .bad

/-! ### what is called -/
def lenV (v : PV) : M PV := fun st => match v with
  | .str s => (match lineOk s.length with
    | true => .ok (.int s.length) st
    | false => .bad)
  | v => (match seqV st v with
    | some (_, xs) => .ok (.int xs.length) st
    | none => .bad)
def listV (mu : Bool) (v : PV) : M PV := fun st => match seqV st v with
  | some (_, xs) => newL mu xs st
  | none => .bad
def tupV (v : PV) : M PV := fun st => match seqV st v with
  | some (_, xs) => .ok (.tup xs) st
  | none => .bad
def intV (v : PV) : M PV := match v with
  | .int i => M.pure (.int i)
  | .bl b => M.pure (.int (if b then 1 else 0))
  | _ => M.bad
def strV (v : PV) : M PV := match v with
  | .int i => (match decide (i.natAbs.log2 < 1920) with
    | true => M.pure (.str (toString i))
    | false => M.bad)
  | _ => M.bad
def absV' (v : PV) : M PV := match v with
  | .int i => M.pure (.int (if i < 0 then -i else i))
  | _ => M.bad
def gcdV (v w : PV) : M PV := match v, w with
  | .int i, .int j => M.pure (.int ((Nat.gcd i.natAbs j.natAbs : Nat) : Int))
  | _, _ => M.bad
/-! ### what is stored -/
mutual
def asgP (st : Sto) : CT → PV → Rho → Option Rho
  | .nm i, v, ρ => some (ρ.set i (some v))
  | .tup l, v, ρ => match seqV st v with
    | some (true, xs) => asgPs st l xs ρ
    | _ => none
def asgPs (st : Sto) : List CT → List PV → Rho → Option Rho
  | [], [], ρ => some ρ
  | t :: ts, x :: xs, ρ => match asgP st t x ρ with
    | some ρ' => asgPs st ts xs ρ'
    | none => none
  | _, _, _ => none
end
mutual
def slots : CT → List Nat
  | .nm i => [i]
  | .tup l => slotss l
def slotss : List CT → List Nat
  | [] => []
  | t :: ts => slots t ++ slotss ts
end
def wipeP (ρ : Rho) : List Nat → Rho
  | [] => ρ
  | v :: vs => (wipeP ρ vs).set v none
/-- o[i] = v -/
def partI : PV → M (Option Int)
  | .int i => M.pure (some i)
  | _ => M.bad
def one1 (f : PV → M PV) : List PV → M PV
  | [v] => f v
  | _ => M.bad
def two2 (f : PV → PV → M PV) : List PV → M PV
  | [v, w] => f v w
  | _ => M.bad
def setV (o i v : PV) : M Unit := fun st => match o with
  | .m k => (match st[k]?, i with
    | some (.lst xs), .int j => (match ixN xs.length j with
      | some n => .ok () (st.set k (.lst (xs.set n v)))
      | none => .bad)
    | some (.dct kvs), .str s => (match lineOk (kvs.length + 1) with
      | true => .ok () (st.set k (.dct (putP kvs (Sum.inr s) v)))
      | false => .bad)
    | _, _ => .bad)
  | _ => .bad
def isLst (o : PV) : M Unit := fun st => match o with
  | .m k => (match st[k]? with
    | some (.lst _) => .ok () st
    | _ => .bad)
  | _ => .bad
def appV (o v : PV) : M PV := fun st => match o with
  | .m k => (match st[k]? with
    | some (.lst xs) => (match lineOk (xs.length + 1) with
      | true => .ok .non (st.set k (.lst (xs ++ [v])))
      | false => .bad)
    | _ => .bad)
  | _ => .bad

/-! ### statements -/
inductive SRes where
  | nx (ρ : Rho) (st : Sto) | rt (v : PV) (st : Sto) | bk (ρ : Rho) (st : Sto) | ct (ρ : Rho) (st : Sto)
  | err (c : Nat) (fs : List (Nat × PV)) (ρ : Rho) (st : Sto) | bad
abbrev SM := Rho → Sto → SRes
def Res.toS {α : Type} (r : Res α) (ρ : Rho) (f : α → Sto → SRes) : SRes := match r with
  | .ok a st => f a st
  | .err c fs st => .err c fs ρ st
  | .bad => .bad
def sSkip : SM := fun ρ st => .nx ρ st
def sSeq (a b : SM) : SM := fun ρ st => match a ρ st with
  | .nx ρ' st' => b ρ' st'
  | r => r
def sExpr (m : Rho → M PV) : SM := fun ρ st => (m ρ st).toS ρ fun _ st' => .nx ρ st'
def sRet (m : Rho → M PV) : SM := fun ρ st => (m ρ st).toS ρ fun v st' => .rt v st'
def sIf (t : Rho → M Bool) (a b : SM) : SM := fun ρ st => (t ρ st).toS ρ fun k st' => match k with
  | true => a ρ st'
  | false => b ρ st'
def sAsg (t : CT) (m : Rho → M PV) : SM := fun ρ st => (m ρ st).toS ρ fun v st' => match asgP st' t v ρ with
  | some ρ' => .nx ρ' st'
  | none => .bad
def sSub (mo mi m : Rho → M PV) : SM := fun ρ st => (m ρ st).toS ρ fun v st1 => (mo ρ st1).toS ρ fun o st2 => (mi ρ st2).toS ρ fun i st3 => (setV o i v st3).toS ρ fun _ st4 => .nx ρ st4
/-- over listed things -/
def forS (t : CT) (body : SM) : List PV → SM
  | [] => sSkip
  | x :: xs => fun ρ st => match asgP st t x ρ with
    | none => .bad
    | some ρ1 => match body ρ1 st with
      | .nx ρ2 st2 => forS t body xs ρ2 st2
      | .ct ρ2 st2 => forS t body xs ρ2 st2
      | .bk ρ2 st2 => .nx ρ2 st2
      | r => r
def sFor (t : CT) (m : Rho → M (List PV)) (body : SM) : SM := fun ρ st => (m ρ st).toS ρ fun xs st' => forS t body xs ρ st'
/-- what is walked does not change from now on -/
def freezeV (v : PV) : M PV := fun st => match v with
  | .m i => (match st[i]? with
    | some (.lst xs) => .ok (.lst xs) (st.set i (.frz (.lst xs)))
    | some (.dct xs) => .ok (.dct xs) (st.set i (.frz (.dct xs)))
    | some (.ins c fs) => .ok (.ins c fs) (st.set i (.frz (.ins c fs)))
    | some (.frz w) => .ok w st
    | none => .bad)
  | v => .ok v st
def seqT : PV → Option (Bool × List PV)
  | .tup xs => some (true, xs)
  | .lst xs => some (false, xs)
  | .ro xs => some (false, xs)
  | _ => none
def itemsV (v : PV) : M (List PV) := M.bind (freezeV v) fun w st => match seqT w with
  | some (_, xs) => .ok xs st
  | none => .bad
def rangeV (i j : Int) : List PV := (List.range (j - i).toNat).map fun k => .int (i + (k : Nat))
def rngOk (i : Int) : Bool := decide (-(2 ^ 62) ≤ i) && decide (i < 2 ^ 62)
def range1 : List PV → M (List PV)
  | [.int j] => (match rngOk j with
    | true => M.pure (rangeV 0 j)
    | false => M.bad)
  | _ => M.bad
def range2 : List PV → M (List PV)
  | [.int i, .int j] => (match rngOk i && rngOk j with
    | true => M.pure (rangeV i j)
    | false => M.bad)
  | _ => M.bad
def enumP (xs : List PV) : List PV := (List.range xs.length).zipWith (fun k x => .tup [.int (k : Nat), x]) xs
/-- a list (not a tuple) that is walked within enumerate, zip -/
def lstT : PV → Option (List PV)
  | .lst xs => some xs
  | _ => none
def enumV (v : PV) : M (List PV) := M.bind (freezeV v) fun w st => match lstT w with
  | some xs => .ok (enumP xs) st
  | none => .bad
def zipP (xs ys : List PV) : List PV := xs.zipWith (fun x y => .tup [x, y]) ys
def zipV : List PV → M (List PV)
  | [v, u] => M.bind (freezeV v) fun w => M.bind (freezeV u) fun w2 st => match lstT w, lstT w2 with
    | some xs, some ys => .ok (zipP xs ys) st
    | _, _ => .bad
  | _ => M.bad
/-- no exception leaves -/
def noErr {α : Type} (m : M α) : M α := fun st => match m st with
  | .err _ _ _ => .bad
  | r => r
def compL (t : CT) (tt : Rho → M Bool) (elt : Rho → M PV) (ρ : Rho) : List PV → M (List PV)
  | [] => M.pure []
  | x :: xs => fun st => match asgP st t x ρ with
    | none => .bad
    | some ρ2 => M.bind (tt ρ2) (fun b => match b with
      | true => M.bind (elt ρ2) fun y => M.bind (compL t tt elt ρ xs) fun ys => M.pure (y :: ys)
      | false => compL t tt elt ρ xs) st
def compM (mu : Bool) (t : CT) (own : List Nat) (mi : Rho → M (List PV)) (tt : Rho → M Bool) (elt : Rho → M PV) (ρ : Rho) : M PV :=
  M.bind (mi ρ) fun xs => match lineOk xs.length with
    | true => M.bind (noErr (compL t tt elt (wipeP ρ own) xs)) fun ys => newL mu ys
    | false => M.bad

/-! ### the end of a call: what is local becomes data for good -/
mutual
def trav (f : Nat → Option PV) : PV → Option PV
  | .tup xs => (travs f xs).map .tup
  | .lst xs => (travs f xs).map .lst
  | .ro xs => (travs f xs).map .ro
  | .dct kvs => (travK f kvs).map .dct
  | .ins c fs => (travF f fs).map (.ins c)
  | .exc c fs => (travF f fs).map (.exc c)
  | .m i => f i
  | .non => some .non
  | .bl b => some (.bl b)
  | .int i => some (.int i)
  | .str s => some (.str s)
  | .fn i => some (.fn i)
  | .cls i => some (.cls i)
  | .ty s => some (.ty s)
def travs (f : Nat → Option PV) : List PV → Option (List PV)
  | [] => some []
  | x :: xs => match trav f x with
    | some y => (travs f xs).map (y :: ·)
    | none => none
def travK (f : Nat → Option PV) : List (Key × PV) → Option (List (Key × PV))
  | [] => some []
  | (k, x) :: xs => match trav f x with
    | some y => (travK f xs).map ((k, y) :: ·)
    | none => none
def travF (f : Nat → Option PV) : List (Nat × PV) → Option (List (Nat × PV))
  | [] => some []
  | (k, x) :: xs => match trav f x with
    | some y => (travF f xs).map ((k, y) :: ·)
    | none => none
end
/-- the n-th thing of the store as data for good; older ones stay -/
def clo (n0 : Nat) (st : Sto) : Nat → Nat → Option PV
  | 0, i => if i < n0 then some (.m i) else none
  | k + 1, i => if i < n0 then some (.m i) else match st[i]? with
    | some (.frz v) => trav (clo n0 st k) v
    | some (.lst xs) => (travs (clo n0 st k) xs).map .lst
    | some (.dct xs) => (travK (clo n0 st k) xs).map .dct
    | some (.ins c fs) => (travF (clo n0 st k) fs).map (.ins c)
    | none => none
def travM (f : Nat → Option PV) : MO → Option MO
  | .frz v => (trav f v).map .frz
  | .lst xs => (travs f xs).map .lst
  | .dct xs => (travK f xs).map .dct
  | .ins c fs => (travF f fs).map (.ins c)
def travMs (f : Nat → Option PV) : Sto → Option Sto
  | [] => some []
  | x :: xs => match travM f x with
    | some y => (travMs f xs).map (y :: ·)
    | none => none
def closeSt (n0 : Nat) (st : Sto) : Option Sto := travMs (clo n0 st 8) (st.take n0)
def closeV (n0 : Nat) (st : Sto) (v : PV) : Option PV := trav (clo n0 st 8) v
def finV (n0 : Nat) (v : PV) (st : Sto) : Res PV := match closeV n0 st v with
  | some v' => (match closeSt n0 st with
    | some st' => .ok v' st'
    | none => .bad)
  | none => .bad
def finE (n0 : Nat) (c : Nat) (fs : List (Nat × PV)) (st : Sto) : Res PV := match travF (clo n0 st 8) fs with
  | some fs' => (match closeSt n0 st with
    | some st' => .err c fs' st'
    | none => .bad)
  | none => .bad
/-- .. but what is returned stays as it is, its parts data for good -/
def finK (n0 : Nat) (v : PV) (st : Sto) : Res PV := match v with
  | .m i => (match decide (n0 ≤ i), st[i]? with
    | true, some (.lst xs) => (match travs (clo n0 (st.set i (.frz (.m i))) 8) xs, closeSt n0 (st.set i (.frz (.m i))) with
      | some xs', some st' => .ok (.m n0) (st' ++ [.lst xs'])
      | _, _ => .bad)
    | true, some (.dct xs) => (match travK (clo n0 (st.set i (.frz (.m i))) 8) xs, closeSt n0 (st.set i (.frz (.m i))) with
      | some xs', some st' => .ok (.m n0) (st' ++ [.dct xs'])
      | _, _ => .bad)
    | true, some (.ins c xs) => (match travF (clo n0 (st.set i (.frz (.m i))) 8) xs, closeSt n0 (st.set i (.frz (.m i))) with
      | some xs', some st' => .ok (.m n0) (st' ++ [.ins c xs'])
      | _, _ => .bad)
    | _, _ => .bad)
  | _ => .bad
/-- a body, from its parameters; kp: what is returned stays open -/
def runBody (kp : Bool) (np ns : Nat) (body : SM) (args : List PV) : M PV := fun st => match decide (args.length = np) with
  | true => (match body (args.map some ++ List.replicate (ns - args.length) none) st with
    | .rt v st' => (match kp with
      | true => finK st.length v st'
      | false => finV st.length v st')
    | .nx _ st' => finV st.length .non st'
    | .err c fs _ st' => finE st.length c fs st'
    | _ => .bad)
  | false => .bad
end L3
/-! L3C: laying objects, operators. -/
namespace L3
open PySem PySem.Spec PyProof.Rows L2

theorem lineOk_le {n : Nat} (h : lineOk n = true) : n ≤ sizeLine := by
  rw [sizeLine_eq]
  exact Nat.le_of_ble_eq_true h
section
variable {K : PySem.W.Frag} {μ μ' : List Addr} {F F' H H' : Hp} {st : Sto} {a p : Addr} {o : HO} {mo : MO}
theorem ObR.mono (h : ObR K μ F H a mo) (pr : Pre μ μ') (s : Same F F') (hf : F a = none → F' a = none) (hh : ∀ u, H a = some u → H' a = some u) : ObR K μ' F' H' a mo := by
  cases mo with
  | frz v => exact En.mono pr s h
  | lst xs =>
    obtain ⟨h1, vs, h2, h3⟩ := h
    exact ⟨hf h1, vs, hh _ h2, h3.mono pr s⟩
  | dct xs =>
    obtain ⟨h1, vs, h2, h3⟩ := h
    exact ⟨hf h1, vs, hh _ h2, h3.mono pr s⟩
  | ins c fs =>
    obtain ⟨h1, dx, gs, h2, h3⟩ := h
    exact ⟨hf h1, dx, gs, hh _ h2, h3.mono pr s⟩
theorem pre_app (μ ν : List Addr) : Pre μ (μ ++ ν) := fun i a h => by
  rw [List.getElem?_append_left (List.getElem?_eq_some_iff.mp h).1]
  exact h
theorem Pre.refl (μ : List Addr) : Pre μ μ := fun _ _ h => h
theorem RSt.freeF (r : RSt K μ F H st) (h : H p = none) : F p = none := Same.free r.sub h
theorem RSt.notin (r : RSt K μ F H st) (h : H p = none) : p ∉ μ := fun z => r.there p z h
theorem same_upd (h : H p = none) : Same H (upd H p o) := fun b u q => by rw [upd_ne (ne_of_none q h)]; exact q
/-- a new object for good -/
theorem lay_frz (r : RSt K μ F H st) (h : H p = none) : RSt K μ (upd F p o) (upd H p o) st ∧ Ext μ F H μ (upd F p o) (upd H p o) := by
  have hF := r.freeF h
  have hm := r.notin h
  refine ⟨⟨r.len, r.nd, fun b u q => ?_, fun i a mo h1 h2 => ?_, fun a ha => ?_⟩, ⟨Pre.refl _, same_upd hF, fun b u q _ => same_upd h b u q, fun a h1 h2 => absurd h1 h2, fun a h1 h2 h3 => ?_⟩⟩
  · by_cases hb : b = p
    · subst hb
      rw [upd_same] at q ⊢
      exact q
    · rw [upd_ne hb] at q ⊢
      exact r.sub b u q
  · have ha : a ≠ p := fun z => hm (z ▸ List.mem_of_getElem? h1)
    exact (r.ob i a mo h1 h2).mono (Pre.refl _) (same_upd hF) (fun q => by rw [upd_ne ha]; exact q) (fun u q => by rw [upd_ne ha]; exact q)
  · have ne : a ≠ p := fun z => hm (z ▸ ha)
    rw [upd_ne ne]
    exact r.there a ha
  · by_cases z : a = p
    · rw [z] at h3
      exact absurd h h3
    · rw [upd_ne z] at h1
      exact absurd h2 h1
/-- a new object for the store -/
theorem lay_sto (r : RSt K μ F H st) (h : H p = none) (hm : ObR K (μ ++ [p]) F (upd H p o) p mo) : RSt K (μ ++ [p]) F (upd H p o) (st ++ [mo]) ∧ Ext μ F H (μ ++ [p]) F (upd H p o) := by
  have hF := r.freeF h
  have hn := r.notin h
  refine ⟨⟨by rw [List.length_append, List.length_append, r.len]; rfl, ?_, fun b u q => same_upd h b u (r.sub b u q), fun i a m h1 h2 => ?_, fun a ha => ?_⟩, ⟨pre_app _ _, fun _ _ q => q, fun b u q _ => same_upd h b u q, fun a h1 h2 => ?_, fun a h1 h2 _ => absurd h2 h1⟩⟩
  · rw [List.nodup_append]
    exact ⟨r.nd, by simp, fun x hx y hy z => hn (by rw [List.mem_singleton.mp hy] at z; exact z ▸ hx)⟩
  · by_cases hi : i < μ.length
    · rw [List.getElem?_append_left hi] at h1
      rw [List.getElem?_append_left (by rw [← r.len]; exact hi)] at h2
      have ha : a ≠ p := fun z => hn (z ▸ List.mem_of_getElem? h1)
      exact (r.ob i a m h1 h2).mono (pre_app _ _) (fun _ _ q => q) (fun q => q) (fun u q => by rw [upd_ne ha]; exact q)
    · rw [List.getElem?_append_right (by omega)] at h1
      rw [List.getElem?_append_right (by rw [← r.len]; omega)] at h2
      have hz : i - μ.length = 0 := by
        have := (List.getElem?_eq_some_iff.mp h1).1
        simp at this
        omega
      rw [hz] at h1
      rw [← r.len, hz] at h2
      cases h1
      cases h2
      exact hm
  · rcases List.mem_append.mp ha with q | q
    · have ne : a ≠ p := fun z => hn (z ▸ q)
      rw [upd_ne ne]
      exact r.there a q
    · rw [List.mem_singleton.mp q, upd_same]
      exact fun z => nomatch z
  · rcases List.mem_append.mp h1 with q | q
    · exact absurd q h2
    · rw [List.mem_singleton.mp q]
      exact h
end

section
variable {K : PySem.W.Frag} {μ : List Addr} {F H : Hp} {st : Sto} {Wx : XK} {Q : VK}
theorem newL_ok {mu : Bool} {zs : List PV} {vs : List V} (r : RSt K μ F H st) (e : Ens K μ F zs vs) (p : Post K (En K) Wx Q μ F H (newL mu zs st)) :
    vs.length ≤ sizeLine ∧ ∀ p, H p = none → Q (.ref p) (upd H p (.lst vs)) := by
  unfold newL at p
  cases hl : lineOk zs.length with
  | false =>
    rw [hl] at p
    exact p.elim
  | true =>
    rw [hl] at p
    refine ⟨by rw [← e.length]; exact lineOk_le hl, fun q hq => ?_⟩
    cases mu with
    | false =>
      obtain ⟨r1, x1⟩ := lay_frz (o := .lst vs) r hq
      exact p _ _ _ _ x1 r1 (.lst upd_same (e.mono x1.pre x1.sub))
    | true =>
      have hp := pre_app μ [q]
      obtain ⟨r1, x1⟩ := lay_sto (o := .lst vs) (mo := .lst zs) r hq ⟨r.freeF hq, vs, upd_same, e.mono hp fun _ _ h => h⟩
      refine p _ _ _ _ x1 r1 (.m ?_)
      rw [List.getElem?_append_right (by rw [r.len]; exact Nat.le_refl _), r.len]
      simp
theorem newT_ok {zs : List PV} {vs : List V} (r : RSt K μ F H st) (e : Ens K μ F zs vs) (p : Post K (En K) Wx Q μ F H (newT zs st)) :
    vs.length ≤ sizeLine ∧ ∀ p, H p = none → Q (.ref p) (upd H p (.tup vs)) := by
  unfold newT at p
  cases hl : lineOk zs.length with
  | false =>
    rw [hl] at p
    exact p.elim
  | true =>
    rw [hl] at p
    refine ⟨by rw [← e.length]; exact lineOk_le hl, fun q hq => ?_⟩
    obtain ⟨r1, x1⟩ := lay_frz (o := .tup vs) r hq
    exact p _ _ _ _ x1 r1 (.tup (SqT.of upd_same) (e.mono x1.pre x1.sub))
/-- what the store tells of a value -/
theorem RSt.at_ (r : RSt K μ F H st) {i : Nat} {x : V} (e : En K μ F (.m i) x) {mo : MO} (h : st[i]? = some mo) : ∃ a, x = .ref a ∧ ObR K μ F H a mo := by
  cases e with
  | m q => exact ⟨_, rfl, r.ob _ _ _ q h⟩
theorem lst_ok {v : PV} {x : V} {xs : List PV} (r : RSt K μ F H st) (e : En K μ F v x) (h : lstV st v = some xs) : ∃ a vs, x = .ref a ∧ H a = some (.lst vs) ∧ Ens K μ F xs vs := by
  cases v with
  | lst ys =>
    cases h
    cases e with
    | lst h r' => exact ⟨_, _, rfl, r.sub _ _ h, r'⟩
  | m i =>
    unfold lstV at h
    dsimp only at h
    cases hs : st[i]? with
    | none =>
      rw [hs] at h
      cases h
    | some mo =>
      rw [hs] at h
      obtain ⟨a, rfl, ob⟩ := r.at_ e hs
      cases mo with
      | lst ys =>
        cases h
        obtain ⟨_, vs, h1, h2⟩ := ob
        exact ⟨a, vs, rfl, h1, h2⟩
      | frz w =>
        cases w with
        | lst ys =>
          cases h
          have ob' : En K μ F (.lst xs) (.ref a) := ob
          cases ob' with
          | lst h r' => exact ⟨_, _, rfl, r.sub _ _ h, r'⟩
        | _ => cases h
      | _ => cases h
  | _ => cases h
theorem seq_ok {v : PV} {x : V} {xs : List PV} {b : Bool} (r : RSt K μ F H st) (e : En K μ F v x) (h : seqV st v = some (b, xs)) :
    ∃ a vs, x = .ref a ∧ Ens K μ F xs vs ∧ ((b = true ∧ SqT K F a vs) ∨ (b = false ∧ SqL K H a vs)) := by
  cases v with
  | lst ys =>
    cases h
    cases e with
    | lst h r' => exact ⟨_, _, rfl, r', .inr ⟨rfl, .of (r.sub _ _ h)⟩⟩
  | ro ys =>
    cases h
    cases e with
    | ro h r' => exact ⟨_, _, rfl, r', .inr ⟨rfl, r.sub.seq h⟩⟩
  | tup ys =>
    cases h
    cases e with
    | tup h r' => exact ⟨_, _, rfl, r', .inl ⟨rfl, h⟩⟩
  | m i =>
    unfold seqV at h
    dsimp only at h
    cases hs : st[i]? with
    | none =>
      rw [hs] at h
      cases h
    | some mo =>
      rw [hs] at h
      obtain ⟨a, rfl, ob⟩ := r.at_ e hs
      cases mo with
      | lst ys =>
        cases h
        obtain ⟨_, vs, h1, h2⟩ := ob
        exact ⟨a, vs, rfl, h2, .inr ⟨rfl, .of h1⟩⟩
      | frz w =>
        cases w with
        | lst ys =>
          cases h
          have ob' : En K μ F (.lst xs) (.ref a) := ob
          cases ob' with
          | lst h r' => exact ⟨_, _, rfl, r', .inr ⟨rfl, .of (r.sub _ _ h)⟩⟩
        | _ => cases h
      | _ => cases h
  | _ => cases h
end

/-! ### // by any divisor -/
section
variable {X : Cx}
theorem op_fdivA : OpR X (binaryOp .FloorDiv) (rI (fun i j => j ≠ 0 ∧ Builtin.divisionGoesByPylong i j = false) fun i j => .int (i.fdiv j)) := by
  intro pins s σ H x y v u Q I rx ry h
  obtain ⟨i, j, rfl, rfl, hc, q⟩ := h
  obtain ⟨t, rfl⟩ := rx
  obtain ⟨t', rfl⟩ := ry
  exact floordiv_int hc.1 ⟨.int _, H, I.tok _, ⟨_, rfl⟩, q⟩ (.inl hc.2)
theorem op_mulA : OpR X (binaryOp .Mult) (rI (fun i j => mulOk i j = true) fun i j => .int (i * j)) := by
  intro pins s σ H x y v u Q I rx ry h
  obtain ⟨i, j, rfl, rfl, hc, q⟩ := h
  obtain ⟨t, rfl⟩ := rx
  obtain ⟨t', rfl⟩ := ry
  refine mul_int ⟨.int _, H, I.tok _, ⟨_, rfl⟩, q⟩ ?_
  unfold mulOk at hc
  unfold IntMulOk
  intro z
  rw [z] at hc
  cases hc
end

/-- what an operator's reading asks, from its outcome -/
def BinR (K : PySem.W.Frag) (r : R2) (f : PV → PV → M PV) : Prop :=
  ∀ (μ : List Addr) (F H : Hp) (st : Sto) (v w : PV) (x y : V) (Wx : XK) (Q : VK), RSt K μ F H st → En K μ F v x → En K μ F w y → Post K (En K) Wx Q μ F H (f v w st) → r x y H Q
section
variable {X : Cx} {a b : Expr} {W : WX} {ma mb : Rho → M PV} {pos : Pos}
theorem pe_bin {op : Operator} {r : R2} {f : PV → PV → M PV} (ho : OpR X (binaryOp op) r) (br : BinR X.K r f) (ha : PE X a (TEm X.K W ma)) (hb : PE X b (TEm X.K W mb)) :
    PE X (.BinOp a op b pos) (TEm X.K W fun ρ => M.bind (ma ρ) fun v => M.bind (mb ρ) fun w => f v w) := by
  refine PE.imp (pe_op ho ha hb) fun σ H Q h => ?_
  refine TX.mono (TX.two (R1 := En X.K) (R2 := En X.K) mono_en (f := fun v w _ => f v w) h) fun x H1 h1 => TX.mono h1 fun y H2 h2 => ?_
  obtain ⟨μ, F, ρ, st, v, w, _, rs, ev, ew, p⟩ := h2
  exact br μ F H2 st v w x y _ Q rs ev ew p
theorem pe_cmpm {op : CmpOp} {r : R2} {f : PV → PV → M PV} (ho : OpR X (compareOp op) r) (br : BinR X.K r f) (ha : PE X a (TEm X.K W ma)) (hb : PE X b (TEm X.K W mb)) (hm : behindInMarks op b = false) :
    PE X (.Compare a [op] [b] pos) (TEm X.K W fun ρ => M.bind (ma ρ) fun v => M.bind (mb ρ) fun w => f v w) := by
  refine PE.imp (pe_cmpR ho ha hb hm) fun σ H Q h => ?_
  refine TX.mono (TX.two (R1 := En X.K) (R2 := En X.K) mono_en (f := fun v w _ => f v w) h) fun x H1 h1 => TX.mono h1 fun y H2 h2 => ?_
  obtain ⟨μ, F, ρ, st, v, w, _, rs, ev, ew, p⟩ := h2
  exact br μ F H2 st v w x y _ Q rs ev ew p
end
/-- two ints -/
theorem binI {K : PySem.W.Frag} {C : Int → Int → Prop} {g : Int → Int → V} {f : PV → PV → M PV}
    (h : ∀ v w st (P : Res PV → Prop), P .bad = False → P (f v w st) → ∃ i j, v = .int i ∧ w = .int j ∧ C i j ∧ ∃ z, P (.ok z st) ∧ ∀ μ F, En K μ F z (g i j)) : BinR K (rI C g) f := by
  intro μ F H st v w x y Wx Q r ev ew p
  obtain ⟨i, j, rfl, rfl, hc, z, q, ez⟩ := h v w st (Post K (En K) Wx Q μ F H) rfl p
  cases ev
  cases ew
  exact ⟨i, j, rfl, rfl, hc, post_here q r (ez μ F)⟩

/-! ### the operators -/
section
variable {K : PySem.W.Frag}
theorem br_sub : BinR K (rI0 fun i j => .int (i - j)) (binV .Sub mu) := by
  intro μ F H st v w x y Wx Q r ev ew p
  cases v with
  | int i =>
    cases w with
    | int j =>
      cases ev
      cases ew
      exact ⟨i, j, rfl, rfl, post_here p r (.int _)⟩
    | _ => exact p.elim
  | _ => exact p.elim
theorem br_mul : BinR K (rI (fun i j => mulOk i j = true) fun i j => .int (i * j)) (binV .Mult mu) := by
  intro μ F H st v w x y Wx Q r ev ew p
  cases v with
  | int i =>
    cases w with
    | int j =>
      cases ev
      cases ew
      have p' : Post K (En K) Wx Q μ F H ((match mulOk i j with
        | true => M.pure (.int (i * j))
        | false => M.bad : M PV) st) := p
      cases hm : mulOk i j with
      | false =>
        rw [hm] at p'
        exact p'.elim
      | true =>
        rw [hm] at p'
        exact ⟨i, j, rfl, rfl, hm, post_here p' r (.int _)⟩
    | _ => exact p.elim
  | _ => exact p.elim
theorem br_fdiv : BinR K (rI (fun i j => j ≠ 0 ∧ Builtin.divisionGoesByPylong i j = false) fun i j => .int (i.fdiv j)) (binV .FloorDiv mu) := by
  intro μ F H st v w x y Wx Q r ev ew p
  cases v with
  | int i =>
    cases w with
    | int j =>
      cases ev
      cases ew
      have p' : Post K (En K) Wx Q μ F H ((match decide (j = 0) || Builtin.divisionGoesByPylong i j with
        | false => M.pure (.int (i.fdiv j))
        | true => M.bad : M PV) st) := p
      cases hm : (decide (j = 0) || Builtin.divisionGoesByPylong i j) with
      | true =>
        rw [hm] at p'
        exact p'.elim
      | false =>
        rw [hm] at p'
        obtain ⟨h1, h2⟩ := Bool.or_eq_false_iff.mp hm
        exact ⟨i, j, rfl, rfl, ⟨of_decide_eq_false h1, h2⟩, post_here p' r (.int _)⟩
    | _ => exact p.elim
  | _ => exact p.elim
theorem br_mod : BinR K (rI (fun _ j => j ≠ 0) fun i j => .int (i.fmod j)) (binV .Mod mu) := by
  intro μ F H st v w x y Wx Q r ev ew p
  cases v with
  | int i =>
    cases w with
    | int j =>
      cases ev
      cases ew
      have p' : Post K (En K) Wx Q μ F H ((match decide (j = 0) with
        | false => M.pure (.int (i.fmod j))
        | true => M.bad : M PV) st) := p
      cases hm : decide (j = 0) with
      | true =>
        rw [hm] at p'
        exact p'.elim
      | false =>
        rw [hm] at p'
        exact ⟨i, j, rfl, rfl, of_decide_eq_false hm, post_here p' r (.int _)⟩
    | _ => exact p.elim
  | _ => exact p.elim
theorem br_pow : BinR K (rI CPow fun i j => .int (i ^ j.toNat)) (binV .Pow mu) := by
  intro μ F H st v w x y Wx Q r ev ew p
  cases v with
  | int i =>
    cases w with
    | int j =>
      cases ev
      cases ew
      have p' : Post K (En K) Wx Q μ F H ((match powOk i j with
        | true => M.pure (.int (i ^ j.toNat))
        | false => M.bad : M PV) st) := p
      cases hm : powOk i j with
      | false =>
        rw [hm] at p'
        exact p'.elim
      | true =>
        rw [hm] at p'
        unfold powOk at hm
        obtain ⟨h1, h2⟩ := Bool.and_eq_true_iff.mp hm
        obtain ⟨h2, h3⟩ := Bool.and_eq_true_iff.mp h2
        exact ⟨i, j, rfl, rfl, ⟨of_decide_eq_true h1, of_decide_eq_true h2, of_decide_eq_true h3⟩, post_here p' r (.int _)⟩
    | _ => exact p.elim
  | _ => exact p.elim
/-- + -/
def rAddA : R2 := fun x y H Q => (rI0 fun i j => .int (i + j)) x y H Q ∨ ((∃ i j, x = .str i ∧ y = .str j ∧ i.length + j.length ≤ sizeLine ∧ Q (.str (i ++ j)) H) ∨ rCat x y H Q)
theorem op_addA {X : Cx} : OpR X (binaryOp .Add) rAddA := op_add.or (op_add_str.or op_cat)
theorem br_add : BinR K rAddA (binV .Add mu) := by
  intro μ F H st v w x y Wx Q r ev ew p
  have lst : ∀ {v w : PV} {x y : V}, En K μ F v x → En K μ F w y → Post K (En K) Wx Q μ F H (match lstV st v, lstV st w with
      | some xs, some ys => newL mu (xs ++ ys) st
      | _, _ => .bad) → rCat x y H Q := by
    intro v w x y ev ew p
    cases h1 : lstV st v with
    | none =>
      rw [h1] at p
      exact p.elim
    | some xs =>
      rw [h1] at p
      cases h2 : lstV st w with
      | none =>
        rw [h2] at p
        exact p.elim
      | some ys =>
        rw [h2] at p
        obtain ⟨a, vs, rfl, ha, ea⟩ := lst_ok r ev h1
        obtain ⟨b, ws, rfl, hb, eb⟩ := lst_ok r ew h2
        obtain ⟨hz, q⟩ := newL_ok r (ea.append eb) p
        exact ⟨a, b, vs, ws, rfl, rfl, ha, hb, by rw [← List.length_append]; exact hz, q⟩
  cases v with
  | int i =>
    cases w with
    | int j =>
      cases ev
      cases ew
      exact .inl ⟨i, j, rfl, rfl, post_here p r (.int _)⟩
    | _ => exact .inr (.inr (lst ev ew p))
  | str i =>
    cases w with
    | str j =>
      cases ev
      cases ew
      have p' : Post K (En K) Wx Q μ F H ((match lineOk (i.length + j.length) with
        | true => M.pure (.str (i ++ j))
        | false => M.bad : M PV) st) := p
      cases hm : lineOk (i.length + j.length) with
      | false =>
        rw [hm] at p'
        exact p'.elim
      | true =>
        rw [hm] at p'
        exact .inr (.inl ⟨i, j, rfl, rfl, lineOk_le hm, post_here p' r (.str _)⟩)
    | _ => exact .inr (.inr (lst ev ew p))
  | _ => exact .inr (.inr (lst ev ew p))
end
end L3
/-! L3D: names, constants, comparisons, tests, displays, parts. -/
namespace L3
open PySem PySem.Spec PyProof.Rows L2

section
variable {K : PySem.W.Frag} {μ : List Addr} {F H : Hp} {st : Sto} {Wx : XK} {Q : VK}
theorem norm_ok {v : PV} {x : V} (r : RSt K μ F H st) (e : En K μ F v x) : En K μ F (normV st v) x := by
  cases v with
  | m i =>
    unfold normV
    dsimp only
    cases hs : st[i]? with
    | none => exact e
    | some mo =>
      obtain ⟨a, rfl, ob⟩ := r.at_ e hs
      cases mo with
      | frz w => exact ob
      | _ => exact e
  | _ => exact e
theorem dct_ok {v : PV} {x : V} {xs : List (Key × PV)} (r : RSt K μ F H st) (e : En K μ F v x) (h : dctV st v = some xs) : ∃ a vs, x = .ref a ∧ H a = some (.dK vs) ∧ EnK K μ F xs vs := by
  cases v with
  | dct ys =>
    cases h
    cases e with
    | dct h r' => exact ⟨_, _, rfl, r.sub _ _ h, r'⟩
  | m i =>
    unfold dctV at h
    dsimp only at h
    cases hs : st[i]? with
    | none =>
      rw [hs] at h
      cases h
    | some mo =>
      rw [hs] at h
      obtain ⟨a, rfl, ob⟩ := r.at_ e hs
      cases mo with
      | dct ys =>
        cases h
        obtain ⟨_, vs, h1, h2⟩ := ob
        exact ⟨a, vs, rfl, h1, h2⟩
      | frz w =>
        cases w with
        | dct ys =>
          cases h
          have ob' : En K μ F (.dct xs) (.ref a) := ob
          cases ob' with
          | dct h r' => exact ⟨_, _, rfl, r.sub _ _ h, r'⟩
        | _ => cases h
      | _ => cases h
  | _ => cases h
/-- truth -/
theorem tru_of {v : PV} {x : V} {b : Bool} (r : RSt K μ F H st) (e : En K μ F v x) (h : truV st v = some b) : TruV K x H b := by
  have seq : ∀ {v : PV} {x : V}, En K μ F v x → ((seqV st v).map fun p => !p.2.isEmpty) = some b → TruV K x H b := by
    intro v x e h
    cases hs : seqV st v with
    | none =>
      rw [hs] at h
      cases h
    | some p =>
      obtain ⟨t, xs⟩ := p
      rw [hs] at h
      have hb : (!xs.isEmpty) = b := Option.some.inj h
      obtain ⟨a, vs, rfl, es, q⟩ := seq_ok r e hs
      have hv : b = !vs.isEmpty := by
        rw [← hb]
        cases es <;> rfl
      rcases q with ⟨_, q⟩ | ⟨_, q⟩
      · exact .inr (.inl ⟨vs, same_sqT r.sub q, hv⟩)
      · exact .inl ⟨vs, q, hv⟩
  cases v with
  | non => cases h; cases e; rfl
  | bl c => cases h; cases e; rfl
  | int i => cases h; cases e; rfl
  | _ => exact seq e h
mutual
theorem Dp.mono' {H H' : Hp} (s : Same H H') : ∀ {v : V} {d : PyData}, Dp K H v d → Dp K H' v d
  | _, _, .non => .non
  | _, _, .bl b => .bl b
  | _, _, .int i => .int i
  | _, _, .str x => .str x
  | _, _, .lst h r => .lst (s.seq h) (DpAll.mono' s r)
  | _, _, .tup h r => .tup (same_sqT s h) (DpAll.mono' s r)
theorem DpAll.mono' {H H' : Hp} (s : Same H H') : ∀ {v : List V} {d : List PyData}, DpAll K H v d → DpAll K H' v d
  | _, _, .nil => .nil
  | _, _, .cons h r => .cons (Dp.mono' s h) (DpAll.mono' s r)
end
theorem mapM_data {k : Nat} (ih : ∀ {v : PV} {x : V} {d : PyData}, En K μ F v x → dataV k v = some d → Dp K F x d ∧ d.canLay0 = true ∧ d.depth ≤ k) :
    ∀ {xs : List PV} {vs : List V} {ds : List PyData}, Ens K μ F xs vs → xs.mapM (dataV k) = some ds → DpAll K F vs ds ∧ PyData.canLayAll0 ds = true ∧ PyData.depthAll ds ≤ k
  | [], _, ds, .nil, h => by
    cases h
    exact ⟨.nil, by simp [PyData.canLayAll0], by simp [PyData.depthAll]⟩
  | x :: xs, _, ds, .cons e es, h => by
    rw [List.mapM_cons] at h
    cases hx : dataV k x with
    | none =>
      rw [hx] at h
      cases h
    | some d =>
      rw [hx] at h
      cases hr : xs.mapM (dataV k) with
      | none =>
        rw [hr] at h
        cases h
      | some r =>
        rw [hr] at h
        cases h
        obtain ⟨a1, a2, a3⟩ := ih e hx
        obtain ⟨b1, b2, b3⟩ := mapM_data ih es hr
        refine ⟨.cons a1 b1, ?_, ?_⟩
        · simp [PyData.canLayAll0, a2, b2]
        · simp only [PyData.depthAll]
          omega
theorem data_ok : ∀ (k : Nat) {v : PV} {x : V} {d : PyData}, En K μ F v x → dataV k v = some d → Dp K F x d ∧ d.canLay0 = true ∧ d.depth ≤ k := by
  intro k
  induction k with
  | zero =>
    intro v x d e h
    cases v with
    | non => cases e; cases h; exact ⟨.non, by simp [PyData.canLay0], by simp [PyData.depth]⟩
    | bl b => cases e; cases h; exact ⟨.bl b, by simp [PyData.canLay0], by simp [PyData.depth]⟩
    | int b => cases e; cases h; exact ⟨.int b, by simp [PyData.canLay0], by simp [PyData.depth]⟩
    | str z =>
      cases e
      unfold dataV at h
      cases hz : PyData.strOk z with
      | false =>
        rw [hz] at h
        cases h
      | true =>
        rw [hz] at h
        cases h
        exact ⟨.str z, by simp [PyData.canLay0, hz], by simp [PyData.depth]⟩
    | _ => cases h
  | succ k ih =>
    intro v x d e h
    cases v with
    | non => cases e; cases h; exact ⟨.non, by simp [PyData.canLay0], by simp [PyData.depth]⟩
    | bl b => cases e; cases h; exact ⟨.bl b, by simp [PyData.canLay0], by simp [PyData.depth]⟩
    | int b => cases e; cases h; exact ⟨.int b, by simp [PyData.canLay0], by simp [PyData.depth]⟩
    | str z =>
      cases e
      unfold dataV at h
      cases hz : PyData.strOk z with
      | false =>
        rw [hz] at h
        cases h
      | true =>
        rw [hz] at h
        cases h
        exact ⟨.str z, by simp [PyData.canLay0, hz], by simp [PyData.depth]⟩
    | tup xs =>
      cases e with
      | tup hq hr =>
        have h' : (xs.mapM (dataV k)).map PyData.tuple = some d := h
        cases hm : xs.mapM (dataV k) with
        | none =>
          rw [hm] at h'
          cases h'
        | some ds =>
          rw [hm] at h'
          cases h'
          obtain ⟨a1, a2, a3⟩ := mapM_data ih hr hm
          exact ⟨.tup hq a1, by simpa [PyData.canLay0] using a2, by simp only [PyData.depth]; omega⟩
    | lst xs =>
      cases e with
      | lst hq hr =>
        have h' : (xs.mapM (dataV k)).map PyData.list = some d := h
        cases hm : xs.mapM (dataV k) with
        | none =>
          rw [hm] at h'
          cases h'
        | some ds =>
          rw [hm] at h'
          cases h'
          obtain ⟨a1, a2, a3⟩ := mapM_data ih hr hm
          exact ⟨.lst (.of hq) a1, by simpa [PyData.canLay0] using a2, by simp only [PyData.depth]; omega⟩
    | _ => cases h
/-- what a value's data are, at the heap -/
theorem top_data {v : PV} {x : V} {d : PyData} (r : RSt K μ F H st) (e : En K μ F v x) (h : dataV 12 (topV st v) = some d) : Dp K H x d ∧ SeqAt.shaped d = true := by
  have fin : Dp K H x d ∧ d.canLay0 = true ∧ d.depth ≤ 12 := by
    have plain : ∀ {v : PV}, En K μ F v x → dataV 12 v = some d → Dp K H x d ∧ d.canLay0 = true ∧ d.depth ≤ 12 := fun e h => by
      obtain ⟨a, b, c⟩ := data_ok 12 e h
      exact ⟨Dp.mono' r.sub a, b, c⟩
    cases v with
    | m i =>
      unfold topV at h
      dsimp only at h
      cases hs : st[i]? with
      | none =>
        rw [hs] at h
        cases h
      | some mo =>
        rw [hs] at h
        obtain ⟨a, rfl, ob⟩ := r.at_ e hs
        cases mo with
        | frz w => exact plain ob h
        | lst xs =>
          obtain ⟨_, vs, h1, h2⟩ := ob
          have h' : (xs.mapM (dataV 11)).map PyData.list = some d := h
          cases hm : xs.mapM (dataV 11) with
          | none =>
            rw [hm] at h'
            cases h'
          | some ds =>
            rw [hm] at h'
            cases h'
            obtain ⟨a1, a2, a3⟩ := mapM_data (data_ok 11) h2 hm
            exact ⟨.lst (.of h1) (DpAll.mono' r.sub a1), by simpa [PyData.canLay0] using a2, by simp only [PyData.depth]; omega⟩
        | _ => cases h
    | _ => exact plain e h
  refine ⟨fin.1, ?_⟩
  unfold SeqAt.shaped
  rw [fin.2.1, Bool.true_and]
  exact decide_eq_true (by have := fin.2.2; omega)
theorem br_eqD : BinR K (rEqD K) eqD := by
  intro μ F H st v w x y Wx Q r ev ew p
  have p' : Post K (En K) Wx Q μ F H (match dataV 12 (topV st v), dataV 12 (topV st w) with
    | some a, some b => .ok (.bl (PyData.eqv a b)) st
    | _, _ => .bad) := p
  cases h1 : dataV 12 (topV st v) with
  | none =>
    rw [h1] at p'
    exact p'.elim
  | some a =>
    cases h2 : dataV 12 (topV st w) with
    | none =>
      rw [h1, h2] at p'
      exact p'.elim
    | some b =>
      rw [h1, h2] at p'
      obtain ⟨d1, s1⟩ := top_data r ev h1
      obtain ⟨d2, s2⟩ := top_data r ew h2
      exact ⟨a, b, d1, d2, s1, s2, post_here p' r (.bl _)⟩
theorem br_neD : BinR K (rNeD K) neD := by
  intro μ F H st v w x y Wx Q r ev ew p
  have p' : Post K (En K) Wx Q μ F H (match dataV 12 (topV st v), dataV 12 (topV st w) with
    | some a, some b => .ok (.bl (!PyData.eqv a b)) st
    | _, _ => .bad) := p
  cases h1 : dataV 12 (topV st v) with
  | none =>
    rw [h1] at p'
    exact p'.elim
  | some a =>
    cases h2 : dataV 12 (topV st w) with
    | none =>
      rw [h1, h2] at p'
      exact p'.elim
    | some b =>
      rw [h1, h2] at p'
      obtain ⟨d1, s1⟩ := top_data r ev h1
      obtain ⟨d2, s2⟩ := top_data r ew h2
      exact ⟨a, b, d1, d2, s1, s2, post_here p' r (.bl _)⟩
theorem twoS_some {v w : PV} {p : Str × Str} (h : twoS v w = some p) : v = .str p.1 ∧ w = .str p.2 := by
  unfold twoS at h
  split at h
  · cases h
    exact ⟨rfl, rfl⟩
  · cases h
theorem dec_str {a b : Str} : decide (V.str a = V.str b) = decide (a = b) := by
  rw [Bool.eq_iff_iff]
  simp
theorem br_eq : BinR K (fun x y H Q => rEqD K x y H Q ∨ rEq x y H Q) (cmpV .Eq) := by
  intro μ F H st v w x y Wx Q r ev ew p
  have p' : Post K (En K) Wx Q μ F H ((match twoS v w with
    | some p => M.pure (.bl (decide (p.1 = p.2)))
    | none => eqD v w : M PV) st) := p
  cases hs : twoS v w with
  | none =>
    rw [hs] at p'
    exact .inl (br_eqD μ F H st v w x y Wx Q r ev ew p')
  | some q =>
    rw [hs] at p'
    obtain ⟨rfl, rfl⟩ := twoS_some hs
    cases ev
    cases ew
    refine .inr ⟨rfl, ?_⟩
    rw [dec_str]
    exact post_here p' r (.bl _)
theorem br_ne : BinR K (fun x y H Q => rNeD K x y H Q ∨ rNe x y H Q) (cmpV .NotEq) := by
  intro μ F H st v w x y Wx Q r ev ew p
  have p' : Post K (En K) Wx Q μ F H ((match twoS v w with
    | some p => M.pure (.bl (!decide (p.1 = p.2)))
    | none => neD v w : M PV) st) := p
  cases hs : twoS v w with
  | none =>
    rw [hs] at p'
    exact .inl (br_neD μ F H st v w x y Wx Q r ev ew p')
  | some q =>
    rw [hs] at p'
    obtain ⟨rfl, rfl⟩ := twoS_some hs
    cases ev
    cases ew
    refine .inr ⟨rfl, ?_⟩
    rw [dec_str]
    exact post_here p' r (.bl _)
theorem br_cmpI {op : CmpOp} {g : Int → Int → Bool} (h : ∀ v w, cmpV op v w = match v, w with
    | .int i, .int j => M.pure (.bl (g i j))
    | _, _ => M.bad) : BinR K (rI0 fun i j => .bl (g i j)) (cmpV op) := by
  intro μ F H st v w x y Wx Q r ev ew p
  rw [h] at p
  cases v with
  | int i =>
    cases w with
    | int j =>
      cases ev
      cases ew
      exact ⟨i, j, rfl, rfl, post_here p r (.bl _)⟩
    | _ => exact p.elim
  | _ => exact p.elim
theorem En.isnon {v : PV} {x : V} (e : En K μ F v x) : decide (x = .non) = isNon v := by
  cases e <;> rfl
theorem br_is : BinR K (fun x y H Q => y = .non ∧ Q (.bl (decide (x = .non))) H) (cmpV .Is) := by
  intro μ F H st v w x y Wx Q r ev ew p
  cases w with
  | non =>
    cases ew
    refine ⟨rfl, ?_⟩
    rw [ev.isnon]
    exact post_here p r (.bl _)
  | _ => exact p.elim
theorem br_isnot : BinR K (fun x y H Q => y = .non ∧ Q (.bl (!decide (x = .non))) H) (cmpV .IsNot) := by
  intro μ F H st v w x y Wx Q r ev ew p
  cases w with
  | non =>
    cases ew
    refine ⟨rfl, ?_⟩
    rw [ev.isnon]
    exact post_here p r (.bl _)
  | _ => exact p.elim
end

/-! ### names, constants -/
section
variable {X : Cx} {W : WX} {a b c e : Expr} {ma mb mc : Rho → M PV} {ta tb : Rho → M Bool} {pos : Pos}
theorem pe_getV {i : Nat} {x : Str} (hN : X.N[i]? = some x) (hv : Vis X.env.scope x) (hd : (x == ("__debug__" : Str)) = false) (hcd : (x == ("__classdict__" : Str)) = false) : PE X (.Name x pos) (TEm X.K W (getV i)) := by
  refine PE.imp (pe_var hN hv hd hcd) fun σ H Q h => ?_
  obtain ⟨μ, F, ρ, st, re, rs, p⟩ := h
  unfold getV at p
  cases hq : ρ[i]? with
  | none =>
    rw [hq] at p
    exact p.elim
  | some o =>
    cases o with
    | none =>
      rw [hq] at p
      exact p.elim
    | some v =>
      rw [hq] at p
      obtain ⟨u, h1, h2⟩ := re.2 i v hq
      exact ⟨u, h1, post_here p rs (norm_ok rs h2)⟩
/-- a value that hangs on nothing -/
theorem pe_cstV {v : PV} {w : V} (h : PE X e (tC w)) (en : ∀ μ F, En X.K μ F v w) : PE X e (TEm X.K W fun _ => M.pure v) := by
  refine PE.imp h fun σ H Q h => ?_
  obtain ⟨μ, F, ρ, st, re, rs, p⟩ := h
  exact post_here p rs (en μ F)
/-! ### tests -/
theorem pt_testV (ha : PE X a (TEm X.K W ma)) (he : ∀ whole, isTrue a X.env whole = (do let v ← whole; standAt a.pos; holding [v] (truthy v))) : PT X a (TTm X.K W fun ρ => M.bind (ma ρ) testV) := by
  refine PT.imp (pt_truth ha he) fun σ H Q h => ?_
  refine TX.mono (TX.one (R1 := En X.K) (f := fun v _ => testV v) h) fun x H1 h1 => ?_
  obtain ⟨μ, F, ρ, st, v, re, rs, ev, p⟩ := h1
  unfold testV at p
  cases hq : truV st v with
  | none =>
    rw [hq] at p
    exact p.elim
  | some k =>
    rw [hq] at p
    exact ⟨k, tru_of rs ev hq, post_here p rs rfl⟩
/-- a comparison as a test: its value is a bool -/
theorem pt_cmpV {op : CmpOp} {r : R2} {f : PV → PV → M PV} (ho : OpR X (compareOp op) r) (br : BinR X.K r f) (ha : PE X a (TEm X.K W ma)) (hb : PE X b (TEm X.K W mb)) (hm : behindInMarks op b = false) :
    PT X (.Compare a [op] [b] pos) (TTm X.K W fun ρ => M.bind (ma ρ) fun v => M.bind (mb ρ) fun w => M.bind (f v w) boolV) := by
  refine PT.imp (pt_cmpR ho ha hb hm) fun σ H Q h => ?_
  refine TX.mono (TX.two (R1 := En X.K) (R2 := En X.K) mono_en (f := fun v w _ => M.bind (f v w) boolV) h) fun x H1 h1 => TX.mono h1 fun y H2 h2 => ?_
  obtain ⟨μ, F, ρ, st, v, w, _, rs, ev, ew, p⟩ := h2
  refine br μ F H2 st v w x y (fun c d H => W c d σ H) _ rs ev ew ?_
  have p' : Post X.K RB (fun c d H => W c d σ H) Q μ F H2 ((f v w st).andThen boolV) := p
  refine (Post.bind (R := En X.K) p').imp (fun _ _ _ h => h) fun z H3 ⟨μ3, F3, st3, zv, x3, s3, ez, q3⟩ => ?_
  cases ez with
  | bl k => exact ⟨k, rfl, post_here q3 s3 rfl⟩
  | _ => exact q3.elim
theorem pw_andV {rest : List Expr} (ha : PT X a (TTm X.K W ta)) (hb : PW X (.BoolOp .And (b :: rest) pos) (TTm X.K W tb)) :
    PW X (.BoolOp .And (a :: b :: rest) pos) (TTm X.K W fun ρ => M.bind (ta ρ) fun k => match k with
      | true => tb ρ
      | false => M.pure false) := by
  refine ⟨fun wh pins s σ H Q I h => (pw_and ha hb).run wh pins s σ H Q I ?_⟩
  refine TX.mono (TX.one (R1 := RB) (f := fun k ρ => match k with
      | true => tb ρ
      | false => M.pure false) h) fun c H1 h1 => ?_
  obtain ⟨μ, F, ρ, st, k, re, rs, rfl, p⟩ := h1
  cases k with
  | true =>
    rw [if_pos rfl]
    exact ⟨μ, F, ρ, st, re, rs, p⟩
  | false =>
    rw [if_neg Bool.false_ne_true]
    exact post_here p rs rfl
theorem pw_orV {rest : List Expr} (ha : PT X a (TTm X.K W ta)) (hb : PW X (.BoolOp .Or (b :: rest) pos) (TTm X.K W tb)) :
    PW X (.BoolOp .Or (a :: b :: rest) pos) (TTm X.K W fun ρ => M.bind (ta ρ) fun k => match k with
      | true => M.pure true
      | false => tb ρ) := by
  refine ⟨fun wh pins s σ H Q I h => (pw_or ha hb).run wh pins s σ H Q I ?_⟩
  refine TX.mono (TX.one (R1 := RB) (f := fun k ρ => match k with
      | true => M.pure true
      | false => tb ρ) h) fun c H1 h1 => ?_
  obtain ⟨μ, F, ρ, st, k, re, rs, rfl, p⟩ := h1
  cases k with
  | true =>
    rw [if_pos rfl]
    exact post_here p rs rfl
  | false =>
    rw [if_neg Bool.false_ne_true]
    exact ⟨μ, F, ρ, st, re, rs, p⟩
theorem pt_notV (ha : PT X a (TTm X.K W ta)) : PT X (.UnaryOp .Not a pos) (TTm X.K W fun ρ => M.bind (ta ρ) fun k => M.pure (!k)) := by
  refine PT.imp (pt_not ha) fun σ H Q h => ?_
  refine TX.mono (TX.one (R1 := RB) (f := fun k _ => M.pure (!k)) h) fun c H1 h1 => ?_
  obtain ⟨μ, F, ρ, st, k, re, rs, rfl, p⟩ := h1
  exact post_here p rs rfl
/-! ### .. as values -/
theorem truV_bind {K : PySem.W.Frag} {μ : List Addr} {F H : Hp} {st : Sto} {Wx : XK} {α β : Type} {R : List Addr → Hp → α → β → Prop} {Q : β → Hp → Prop} {v : PV} {x : V} {f : Bool → M α} (r : RSt K μ F H st) (e : En K μ F v x)
    (p : Post K R Wx Q μ F H ((testV v st).andThen f)) : ∃ k, TruV K x H k ∧ Post K R Wx Q μ F H (f k st) := by
  unfold testV at p
  cases hq : truV st v with
  | none =>
    rw [hq] at p
    exact p.elim
  | some k =>
    rw [hq] at p
    exact ⟨k, tru_of r e hq, p⟩
theorem pe_notV (ha : PE X a (TEm X.K W ma)) : PE X (.UnaryOp .Not a pos) (TEm X.K W fun ρ => M.bind (ma ρ) fun v => M.bind (testV v) fun k => M.pure (.bl (!k))) := by
  refine PE.imp (pe_notT ha) fun σ H Q h => ?_
  refine TX.mono (TX.one (R1 := En X.K) (f := fun v _ => M.bind (testV v) fun k => M.pure (PV.bl (!k))) h) fun c H1 h1 => ?_
  obtain ⟨μ, F, ρ, st, v, re, rs, ev, p⟩ := h1
  obtain ⟨k, hk, q⟩ := truV_bind rs ev p
  exact ⟨k, hk, post_here q rs (.bl _)⟩
theorem pe_oneV {op} {m : Rho → M PV} (h : PE X a (TEm X.K W m)) : PE X (.BoolOp op [a] pos) (TEm X.K W m) := pe_one h
theorem pe_andV {rest : List Expr} (ha : PE X a (TEm X.K W ma)) (hb : PE X (.BoolOp .And (b :: rest) pos) (TEm X.K W mb)) :
    PE X (.BoolOp .And (a :: b :: rest) pos) (TEm X.K W fun ρ => M.bind (ma ρ) fun v => M.bind (testV v) fun k => match k with
      | true => mb ρ
      | false => M.pure v) := by
  refine PE.imp (pe_andT ha hb) fun σ H Q h => ?_
  refine TX.mono (TX.one (R1 := En X.K) (f := fun v ρ => M.bind (testV v) fun k => match k with
      | true => mb ρ
      | false => M.pure v) h) fun c H1 h1 => ?_
  obtain ⟨μ, F, ρ, st, v, re, rs, ev, p⟩ := h1
  obtain ⟨k, hk, q⟩ := truV_bind rs ev p
  refine ⟨k, hk, ?_⟩
  cases k with
  | true =>
    rw [if_pos rfl]
    exact ⟨μ, F, ρ, st, re, rs, q⟩
  | false =>
    rw [if_neg Bool.false_ne_true]
    exact post_here q rs ev
theorem pe_orV {rest : List Expr} (ha : PE X a (TEm X.K W ma)) (hb : PE X (.BoolOp .Or (b :: rest) pos) (TEm X.K W mb)) :
    PE X (.BoolOp .Or (a :: b :: rest) pos) (TEm X.K W fun ρ => M.bind (ma ρ) fun v => M.bind (testV v) fun k => match k with
      | true => M.pure v
      | false => mb ρ) := by
  refine PE.imp (pe_orT ha hb) fun σ H Q h => ?_
  refine TX.mono (TX.one (R1 := En X.K) (f := fun v ρ => M.bind (testV v) fun k => match k with
      | true => M.pure v
      | false => mb ρ) h) fun c H1 h1 => ?_
  obtain ⟨μ, F, ρ, st, v, re, rs, ev, p⟩ := h1
  obtain ⟨k, hk, q⟩ := truV_bind rs ev p
  refine ⟨k, hk, ?_⟩
  cases k with
  | true =>
    rw [if_pos rfl]
    exact post_here q rs ev
  | false =>
    rw [if_neg Bool.false_ne_true]
    exact ⟨μ, F, ρ, st, re, rs, q⟩
theorem pe_ifV (hc : PT X c (TTm X.K W ta)) (ha : PE X a (TEm X.K W ma)) (hb : PE X b (TEm X.K W mb)) :
    PE X (.IfExp c a b pos) (TEm X.K W fun ρ => M.bind (ta ρ) fun k => match k with
      | true => ma ρ
      | false => mb ρ) := by
  refine PE.imp (pe_ifExp hc ha hb) fun σ H Q h => ?_
  refine TX.mono (TX.one (R1 := RB) (f := fun k ρ => match k with
      | true => ma ρ
      | false => mb ρ) h) fun c H1 h1 => ?_
  obtain ⟨μ, F, ρ, st, k, re, rs, rfl, p⟩ := h1
  cases k with
  | true =>
    rw [if_pos rfl]
    exact ⟨μ, F, ρ, st, re, rs, p⟩
  | false =>
    rw [if_neg Bool.false_ne_true]
    exact ⟨μ, F, ρ, st, re, rs, p⟩
theorem pe_negV (ha : PE X a (TEm X.K W ma)) : PE X (.UnaryOp .USub a pos) (TEm X.K W fun ρ => M.bind (ma ρ) negV) := by
  refine PE.imp (pe_un un_neg ha) fun σ H Q h => ?_
  refine TX.mono (TX.one (R1 := En X.K) (f := fun v _ => negV v) h) fun x H1 h1 => ?_
  obtain ⟨μ, F, ρ, st, v, re, rs, ev, p⟩ := h1
  cases v with
  | int i =>
    cases ev
    exact ⟨i, rfl, post_here p rs (.int _)⟩
  | _ => exact p.elim
/-! ### lists of arguments, displays -/
theorem pa_nilV : PA X [] (TAm X.K W fun _ => M.pure []) := by
  refine PA.imp pa_nil fun σ H Q h => ?_
  obtain ⟨μ, F, ρ, st, re, rs, p⟩ := h
  exact post_here p rs .nil
theorem pa_consV {es : List Expr} {me : Rho → M PV} {mr : Rho → M (List PV)} (ha : PE X e (TEm X.K W me)) (hr : PA X es (TAm X.K W mr)) (hs : starEach (e :: es) X.env = (false, eval e X.env) :: starEach es X.env) :
    PA X (e :: es) (TAm X.K W fun ρ => consA (me ρ) (mr ρ)) := by
  refine PA.imp (pa_cons ha hr hs) fun σ H Q h => ?_
  refine TX.mono (TX.two (R1 := En X.K) (R2 := Ens X.K) mono_en (f := fun v vs _ => M.pure (v :: vs)) h) fun x H1 h1 => TX.mono h1 fun y H2 h2 => ?_
  obtain ⟨μ, F, ρ, st, v, w, _, rs, ev, ew, p⟩ := h2
  exact post_here p rs (.cons ev ew)
theorem pe_tupV {es : List Expr} {x1} {mr : Rho → M (List PV)} (h : PA X es (TAm X.K W mr)) : PE X (.Tuple es x1 pos) (TEm X.K W fun ρ => M.bind (mr ρ) newT) := by
  refine PE.imp (pe_tup h) fun σ H Q h => ?_
  refine TX.mono (TX.one (R1 := Ens X.K) (f := fun vs _ => newT vs) h) fun x H1 h1 => ?_
  obtain ⟨μ, F, ρ, st, v, re, rs, ev, p⟩ := h1
  exact newT_ok rs ev p
theorem pe_lstV {es : List Expr} {mu : Bool} {mr : Rho → M (List PV)} (h : PA X es (TAm X.K W mr)) : PE X (.List es pos) (TEm X.K W fun ρ => M.bind (mr ρ) (newL mu)) := by
  refine PE.imp (pe_lst h) fun σ H Q h => ?_
  refine TX.mono (TX.one (R1 := Ens X.K) (f := fun vs _ => newL mu vs) h) fun x H1 h1 => ?_
  obtain ⟨μ, F, ρ, st, v, re, rs, ev, p⟩ := h1
  exact newL_ok rs ev p
/-! ### parts -/
theorem atI_ens {K : PySem.W.Frag} {μ : List Addr} {F : Hp} {xs : List PV} {vs : List V} {i : Int} {x : PV} (r : Ens K μ F xs vs) (h : atP xs i = some x) : ∃ v, atI vs i = some v ∧ En K μ F x v := by
  unfold atP atI at h
  obtain ⟨j, h1, h2⟩ := Option.bind_eq_some_iff.mp h
  obtain ⟨v, h3, h4⟩ := r.get h2
  refine ⟨v, ?_, h4⟩
  unfold atI
  rw [← r.length, h1]
  exact h3
theorem lookup_enk {K : PySem.W.Frag} {μ : List Addr} {F : Hp} {k : Key} {x : PV} : ∀ {kvs : List (Key × PV)} {ks : List (Key × V)}, EnK K μ F kvs ks → kvs.lookup k = some x → ∃ v, ks.lookup k = some v ∧ En K μ F x v
  | _, _, .nil, h => by simp at h
  | _, _, .cons (k := k') e r, h => by
    rw [List.lookup_cons] at h ⊢
    cases hk : k == k' with
    | true =>
      rw [hk] at h
      cases h
      exact ⟨_, rfl, e⟩
    | false =>
      rw [hk] at h
      exact lookup_enk r h
end
end L3
/-! L3E: parts, slices, built-ins, what is stored. -/
namespace L3
open PySem PySem.Spec PyProof.Rows L2

section
variable {K : PySem.W.Frag} {μ : List Addr} {F H : Hp} {st : Sto} {Wx : XK} {Q : VK}
theorem val_ok {k : Key} {x : PV} : ∀ {kvs : List (Key × PV)} {ks : List (Key × V)}, EnK K μ F kvs ks → valP kvs k = some x → ∃ v, valV ks k = some v ∧ En K μ F x v
  | _, _, .nil, h => by
    unfold valP at h
    simp at h
  | _, _, .cons (k := k') (x := y) (v := w) e r, h => by
    by_cases hk : k' = k
    · rw [valV_pos (p := (k', w)) hk]
      have h' : some y = some x := by
        rw [← h]
        unfold valP
        simp [List.find?_cons, hk]
      cases h'
      exact ⟨w, rfl, e⟩
    · rw [valV_neg (p := (k', w)) hk]
      refine val_ok r ?_
      rw [← h]
      unfold valP
      simp [List.find?_cons, hk]
theorem any_enk {k : Key} : ∀ {kvs : List (Key × PV)} {ks : List (Key × V)}, EnK K μ F kvs ks → (kvs.any fun kv => decide (kv.1 = k)) = (ks.any fun kv => decide (kv.1 = k))
  | _, _, .nil => rfl
  | _, _, .cons e r => by rw [List.any_cons, List.any_cons, any_enk r]
theorem map_enk {k : Key} {v : PV} {w : V} (h : En K μ F v w) : ∀ {kvs : List (Key × PV)} {ks : List (Key × V)}, EnK K μ F kvs ks → EnK K μ F (kvs.map fun kv => if kv.1 = k then (kv.1, v) else kv) (ks.map fun kv => if kv.1 = k then (kv.1, w) else kv)
  | _, _, .nil => .nil
  | _, _, .cons (k := k') e r => by
    rw [List.map_cons, List.map_cons]
    by_cases hk : k' = k
    · rw [if_pos hk, if_pos hk]
      exact .cons h (map_enk h r)
    · rw [if_neg hk, if_neg hk]
      exact .cons e (map_enk h r)
theorem EnK.append : ∀ {xs ys : List (Key × PV)} {vs ws : List (Key × V)}, EnK K μ F xs vs → EnK K μ F ys ws → EnK K μ F (xs ++ ys) (vs ++ ws)
  | _, _, _, _, .nil, s => s
  | _, _, _, _, .cons h r, s => .cons h (EnK.append r s)
theorem EnK.length : ∀ {xs : List (Key × PV)} {vs : List (Key × V)}, EnK K μ F xs vs → xs.length = vs.length
  | _, _, .nil => rfl
  | _, _, .cons _ r => by rw [List.length_cons, List.length_cons, EnK.length r]
theorem put_ok {k : Key} {v : PV} {w : V} (h : En K μ F v w) {kvs : List (Key × PV)} {ks : List (Key × V)} (r : EnK K μ F kvs ks) : EnK K μ F (putP kvs k v) (putK ks k w) := by
  unfold putP putK
  rw [any_enk r]
  split
  · exact map_enk h r
  · exact r.append (.cons h .nil)
theorem nodup_ixA {N : List Addr} (hN : N.Nodup) {i j : Nat} {x : Addr} (a : N[i]? = some x) (b : N[j]? = some x) : i = j := by
  obtain ⟨h1, e1⟩ := List.getElem?_eq_some_iff.mp a
  obtain ⟨h2, e2⟩ := List.getElem?_eq_some_iff.mp b
  exact (List.getElem_inj hN).mp (e1.trans e2.symm)
/-- the object at a, in the store at k, is changed -/
theorem RSt.put {k : Nat} {a : Addr} {o : HO} {mo mo' : MO} (r : RSt K μ F H st) (hk : μ[k]? = some a) (hs : st[k]? = some mo) (hF : F a = none) (hn : ObR K μ F (upd H a o) a mo') :
    RSt K μ F (upd H a o) (st.set k mo') := by
  refine ⟨by rw [List.length_set]; exact r.len, r.nd, fun b u q => ?_, fun i b m h1 h2 => ?_, fun b hb => ?_⟩
  · have hb : b ≠ a := fun z => by
      rw [z, hF] at q
      cases q
    rw [upd_ne hb]
    exact r.sub b u q
  · by_cases hi : k = i
    · subst hi
      rw [hk] at h1
      cases h1
      rw [List.getElem?_set_self (List.getElem?_eq_some_iff.mp hs).1] at h2
      cases h2
      exact hn
    · rw [List.getElem?_set_ne hi] at h2
      have hb : b ≠ a := by
        intro z
        rw [z] at h1
        exact hi (nodup_ixA r.nd hk h1)
      exact (r.ob i b m h1 h2).mono (Pre.refl _) (fun _ _ q => q) (fun q => q) fun u q => by rw [upd_ne hb]; exact q
  · by_cases z : b = a
    · rw [z, upd_same]
      exact fun z => nomatch z
    · rw [upd_ne z]
      exact r.there b hb
theorem ext_put {a : Addr} {o : HO} (ha : a ∈ μ) : Ext μ F H μ F (upd H a o) :=
  ⟨Pre.refl _, fun _ _ q => q, fun b u q n => by rw [upd_ne (fun z => n (by rw [z]; exact ha))]; exact q, fun b h n => absurd h n, fun _ h n _ => absurd n h⟩
end

/-! ### parts -/
/-- a[b], by values: lists, tuples, dicts -/
def rSub (K : PySem.W.Frag) : R2 := fun x y H Q => rIxL K x y H Q ∨ (rIxT K x y H Q ∨ ∃ a v, x = .ref a ∧ DGet H a y (some v) ∧ Q v H)
theorem ix_sub {X : Cx} (hu : X.A.units + 1 < cLine) : IxR X (rSub X.K) := by
  refine ix_list.or (ix_tup.or ?_)
  intro value slice pins s σ H x y v u Q I rx ry h hs
  obtain ⟨a, z, rfl, g, q⟩ := h
  obtain rfl : v = Value.ref a := rx
  exact tail_any (dict_typeIs I g) PySem.F.slot_dict_getitem.lookup (d_getItem hu I g ry fun w' s3 I3 rw' => ⟨z, H, I3, rw', q⟩) hs
theorem br_sub' {K : PySem.W.Frag} : BinR K (rSub K) subV := by
  intro μ F H st v w x y Wx Q r ev ew p
  unfold subV at p
  cases w with
  | int k =>
    cases ew
    dsimp only at p
    cases hs : seqV st v with
    | none =>
      rw [hs] at p
      exact p.elim
    | some t =>
      obtain ⟨b, xs⟩ := t
      rw [hs] at p
      dsimp only at p
      cases ha : atP xs k with
      | none =>
        rw [ha] at p
        exact p.elim
      | some z =>
        rw [ha] at p
        obtain ⟨a, vs, rfl, es, q⟩ := seq_ok r ev hs
        obtain ⟨u, h1, h2⟩ := atI_ens es ha
        have fin := post_here p r (norm_ok r h2)
        rcases q with ⟨_, q⟩ | ⟨_, q⟩
        · exact .inr (.inl ⟨a, vs, k, u, rfl, rfl, same_sqT r.sub q, h1, fin⟩)
        · exact .inl ⟨a, vs, k, u, rfl, rfl, q, h1, fin⟩
  | str k =>
    cases ew
    dsimp only at p
    cases hs : dctV st v with
    | none =>
      rw [hs] at p
      exact p.elim
    | some kvs =>
      rw [hs] at p
      dsimp only at p
      cases ha : valP kvs (Sum.inr k) with
      | none =>
        rw [ha] at p
        exact p.elim
      | some z =>
        rw [ha] at p
        obtain ⟨a, ks, rfl, hH, es⟩ := dct_ok r ev hs
        obtain ⟨u, h1, h2⟩ := val_ok es ha
        have fin := post_here p r (norm_ok r h2)
        exact .inr (.inr ⟨a, u, rfl, .inl ⟨ks, Sum.inr k, .of hH, rfl, h1.symm⟩, fin⟩)
  | _ => exact p.elim
section
variable {X : Cx} {W : WX} {a b c e : Expr} {ma mb mc : Rho → M PV} {pos p2 : Pos}
theorem pe_subV (hu : X.A.units + 1 < cLine) (ha : PE X a (TEm X.K W ma)) (hb : PE X b (TEm X.K W mb)) (hs : PlainIx b) : PE X (.Subscript a b pos) (TEm X.K W fun ρ => M.bind (ma ρ) fun v => M.bind (mb ρ) fun w => subV v w) := by
  refine PE.imp (pe_ix (ix_sub hu) ha hb hs) fun σ H Q h => ?_
  refine TX.mono (TX.two (R1 := En X.K) (R2 := En X.K) mono_en (f := fun v w _ => subV v w) h) fun x H1 h1 => TX.mono h1 fun y H2 h2 => ?_
  obtain ⟨μ, F, ρ, st, v, w, _, rs, ev, ew, p⟩ := h2
  exact br_sub' μ F H2 st v w x y _ Q rs ev ew p
/-! ### slices -/
theorem ens_cut {K : PySem.W.Frag} {μ : List Addr} {F : Hp} {xs : List PV} {vs : List V} {lo hi : Option Int} (r : Ens K μ F xs vs) : Ens K μ F (cutP xs lo hi) (cutV vs lo hi) := by
  unfold cutP cutV
  rw [← r.length]
  exact (r.drop _).take _
def rSlice (K : PySem.W.Frag) : V → Option Int → Option Int → Hp → VK → Prop := fun x lo hi H Q => rSlL K x lo hi H Q ∨ rSlA K x lo hi H Q
theorem sl_any {X : Cx} : SlR X (rSlice X.K) := sl_list.or sl_tupA
theorem cut_sound {K : PySem.W.Frag} {μ : List Addr} {F H : Hp} {st : Sto} {mu : Bool} {v : PV} {x : V} {lo hi : Option Int} {Wx : XK} {Q : VK} (r : RSt K μ F H st) (ev : En K μ F v x)
    (p : Post K (En K) Wx Q μ F H (cutV' mu v lo hi st)) : rSlice K x lo hi H Q := by
  unfold cutV' at p
  cases hs : seqV st v with
  | none =>
    rw [hs] at p
    exact p.elim
  | some t =>
    obtain ⟨b, xs⟩ := t
    rw [hs] at p
    obtain ⟨a, vs, rfl, es, q⟩ := seq_ok r ev hs
    have ec := ens_cut (lo := lo) (hi := hi) es
    rcases q with ⟨rfl, q⟩ | ⟨rfl, q⟩
    · refine .inr ⟨a, vs, rfl, same_sqT r.sub q, fun hw => ?_, fun _ p' hp => ?_⟩
      · refine post_here p r ?_
        have e : cutV vs lo hi = vs := by
          unfold cutV
          rw [hw.1, hw.2]
          simp
        rw [e] at ec
        exact .tup q ec
      · obtain ⟨r1, x1⟩ := lay_frz (o := .tup (cutV vs lo hi)) r hp
        exact p _ _ _ _ x1 r1 (.tup (SqT.of upd_same) (ec.mono x1.pre x1.sub))
    · exact .inl ⟨a, vs, rfl, q, (newL_ok r ec p).2⟩

inductive PartOf (X : Cx) (W : WX) : Option Expr → (Rho → M (Option Int)) → Prop
  | none : PartOf X W none fun _ => M.pure none
  | some {e : Expr} {m : Rho → M PV} (h : PE X e (TEm X.K W m)) : PartOf X W (some e) fun ρ => M.bind (m ρ) partI
abbrev RO : List Addr → Hp → Option Int → Option Int → Prop := fun _ _ a b => a = b
theorem partOf_po {lo : Option Expr} {m : Rho → M (Option Int)} (h : PartOf X W lo m) : PO X lo (TXm X.K RO W m) := by
  cases h with
  | none => exact ⟨fun pins s σ H Q I h => po_none.run pins s σ H Q I (by
      obtain ⟨μ, F, ρ, st, re, rs, p⟩ := h
      exact post_here p rs rfl)⟩
  | @some e m h => exact ⟨fun pins s σ H Q I hq => (po_some h).run pins s σ H Q I (by
      refine TX.mono (TX.one (R1 := En X.K) (f := fun v _ => partI v) hq) fun x H1 h1 => ?_
      obtain ⟨μ, F, ρ, st, v, re, rs, ev, p⟩ := h1
      cases v with
      | int i =>
        cases ev
        exact ⟨i, rfl, post_here p rs rfl⟩
      | _ => exact p.elim)⟩
theorem pe_sliceV {mu : Bool} {lo hi : Option Expr} {ml mh : Rho → M (Option Int)} (ha : PE X a (TEm X.K W ma)) (hl : PartOf X W lo ml) (hh : PartOf X W hi mh) :
    PE X (.Subscript a (.Slice lo hi none p2) pos) (TEm X.K W fun ρ => M.bind (ma ρ) fun v => M.bind (ml ρ) fun l => M.bind (mh ρ) fun u => cutV' mu v l u) := by
  refine PE.imp (pe_slice sl_any ha (partOf_po hl) (partOf_po hh)) fun σ H Q h => ?_
  refine TX.mono (TX.two (R1 := En X.K) (R2 := RO) mono_en (f := fun v l ρ => M.bind (mh ρ) fun u => cutV' mu v l u) h) fun x H1 h1 => TX.mono h1 fun y H2 h2 => ?_
  obtain ⟨μ, F, ρ, st, v, l, re, rs, ev, rfl, p⟩ := h2
  refine ⟨μ, F, ρ, st, re, rs, ?_⟩
  refine (Post.bind (R := RO) (r := mh ρ st) (f := fun u => cutV' mu v l u) p).imp (fun _ _ _ h => h) fun z H3 ⟨μ3, F3, st3, u, x3, s3, eu, q3⟩ => ?_
  cases eu
  exact cut_sound s3 (ev.mono x3.pre x3.sub) q3
/-! ### built-in functions of one and two values -/
/-- what a call's reading asks, from its outcome -/
def CallS (K : PySem.W.Frag) (r : List V → Hp → VK → Prop) (f : List PV → M PV) : Prop :=
  ∀ (μ : List Addr) (F H : Hp) (st : Sto) (vs : List PV) (xs : List V) (Wx : XK) (Q : VK), RSt K μ F H st → Ens K μ F vs xs → Post K (En K) Wx Q μ F H (f vs st) → r xs H Q
theorem CallS.one {K : PySem.W.Frag} {r : List V → Hp → VK → Prop} {f : PV → M PV} (h : ∀ (μ : List Addr) (F H : Hp) (st : Sto) (v : PV) (x : V) (Wx : XK) (Q : VK), RSt K μ F H st → En K μ F v x → Post K (En K) Wx Q μ F H (f v st) → r [x] H Q) : CallS K r (one1 f) := by
  intro μ F H st vs xs Wx Q rs es p
  cases es with
  | nil => exact p.elim
  | cons e r' =>
    cases r' with
    | nil => exact h _ _ _ _ _ _ _ _ rs e p
    | cons _ _ => exact p.elim
theorem CallS.two {K : PySem.W.Frag} {r : List V → Hp → VK → Prop} {f : PV → PV → M PV} (h : ∀ (μ : List Addr) (F H : Hp) (st : Sto) (v w : PV) (x y : V) (Wx : XK) (Q : VK), RSt K μ F H st → En K μ F v x → En K μ F w y → Post K (En K) Wx Q μ F H (f v w st) → r [x, y] H Q) : CallS K r (two2 f) := by
  intro μ F H st vs xs Wx Q rs es p
  cases es with
  | nil => exact p.elim
  | cons e r' =>
    cases r' with
    | nil => exact p.elim
    | cons e2 r'' =>
      cases r'' with
      | nil => exact h _ _ _ _ _ _ _ _ _ _ rs e e2 p
      | cons _ _ => exact p.elim
theorem pe_bltV {x : Str} {p1 : Pos} {id : String} {r : List V → Hp → VK → Prop} {f : List PV → M PV} {e : Expr} {es : List Expr} {mr : Rho → M (List PV)} (hc : CallR X (.builtin id) r) (cs : CallS X.K r f) (hg : Gl X x) (hm : X.mg x = none) (hv : bootBuiltins x = some (.builtin id)) (ha : PA X (e :: es) (TAm X.K W mr))
    (hn : x ≠ "__name__") (hdb : (x == ("__debug__" : Str)) = false) (he : starEach (e :: es) X.env = (false, eval e X.env) :: starEach es X.env) (hpl : (backTo pos (starEach es X.env)).any (·.1) = false) :
    PE X (.Call (.Name x p1) (e :: es) [] pos) (TEm X.K W fun ρ => M.bind (mr ρ) f) := by
  refine PE.imp (pe_callB hc hg hm hv ha hn hdb he hpl) fun σ H Q h => ?_
  refine TX.mono (TX.one (R1 := Ens X.K) (f := fun vs _ => f vs) h) fun x H1 h1 => ?_
  obtain ⟨μ, F, ρ, st, v, re, rs, ev, p⟩ := h1
  exact cs μ F H1 st v x _ Q rs ev p
theorem pe_btyV {x : Str} {p1 : Pos} {id : String} {r : List V → Hp → VK → Prop} {f : List PV → M PV} {e : Expr} {es : List Expr} {mr : Rho → M (List PV)} (hc : CallR X (.type id) r) (cs : CallS X.K r f) (hg : Gl X x) (hm : X.mg x = none) (hv : bootBuiltins x = some (.type id)) (ha : PA X (e :: es) (TAm X.K W mr))
    (hn : x ≠ "__name__") (hdb : (x == ("__debug__" : Str)) = false) (he : starEach (e :: es) X.env = (false, eval e X.env) :: starEach es X.env) (hpl : (backTo pos (starEach es X.env)).any (·.1) = false) :
    PE X (.Call (.Name x p1) (e :: es) [] pos) (TEm X.K W fun ρ => M.bind (mr ρ) f) := by
  refine PE.imp (pe_callTy hc hg hm hv ha hn hdb he hpl) fun σ H Q h => ?_
  refine TX.mono (TX.one (R1 := Ens X.K) (f := fun vs _ => f vs) h) fun x H1 h1 => ?_
  obtain ⟨μ, F, ρ, st, v, re, rs, ev, p⟩ := h1
  exact cs μ F H1 st v x _ Q rs ev p
theorem pe_bfnV {x : Str} {p1 : Pos} {id : String} {r : List V → Hp → VK → Prop} {f : List PV → M PV} {e : Expr} {es : List Expr} {mr : Rho → M (List PV)} (hc : CallR X (.builtin id) r) (cs : CallS X.K r f) (hg : Gl X x) (hm : X.mg x = some (.builtin id)) (ha : PA X (e :: es) (TAm X.K W mr))
    (hdb : (x == ("__debug__" : Str)) = false) (he : starEach (e :: es) X.env = (false, eval e X.env) :: starEach es X.env) (hpl : (backTo pos (starEach es X.env)).any (·.1) = false) :
    PE X (.Call (.Name x p1) (e :: es) [] pos) (TEm X.K W fun ρ => M.bind (mr ρ) f) := by
  refine PE.imp (pe_callBfun hc hg hm ha hdb he hpl) fun σ H Q h => ?_
  refine TX.mono (TX.one (R1 := Ens X.K) (f := fun vs _ => f vs) h) fun x H1 h1 => ?_
  obtain ⟨μ, F, ρ, st, v, re, rs, ev, p⟩ := h1
  exact cs μ F H1 st v x _ Q rs ev p
end
section
variable {K : PySem.W.Frag}
theorem cs_len : CallS K (fun xs H Q => ∃ x n, xs = [x] ∧ LenV K x H n ∧ Q (.int n) H) (one1 lenV) := by
  refine .one fun μ F H st v x Wx Q rs e p => ?_
  have seq : ∀ {v : PV}, En K μ F v x → Post K (En K) Wx Q μ F H (match seqV st v with
      | some (_, xs) => .ok (.int xs.length) st
      | none => .bad) → ∃ n : Nat, LenV K x H n ∧ Q (.int n) H := by
    intro v e p
    cases hs : seqV st v with
    | some t =>
      obtain ⟨b, xs⟩ := t
      rw [hs] at p
      obtain ⟨a, vs, rfl, es, q⟩ := seq_ok rs e hs
      refine ⟨vs.length, ?_, ?_⟩
      · rcases q with ⟨_, q⟩ | ⟨_, q⟩
        · exact .inr ⟨_, same_sqT rs.sub q, rfl⟩
        · exact .inl ⟨_, q, rfl⟩
      · rw [← es.length]
        exact post_here p rs (.int _)
    | none =>
      rw [hs] at p
      exact p.elim
  cases v with
  | str z =>
    cases e
    have p' : Post K (En K) Wx Q μ F H (match lineOk z.length with
      | true => .ok (.int z.length) st
      | false => .bad) := p
    cases hl : lineOk z.length with
    | false =>
      rw [hl] at p'
      exact p'.elim
    | true =>
      rw [hl] at p'
      exact ⟨_, z.length, rfl, ⟨lineOk_le hl, rfl⟩, post_here p' rs (.int _)⟩
  | _ =>
    obtain ⟨n, h1, h2⟩ := seq e p
    exact ⟨_, n, rfl, h1, h2⟩
theorem cs_list {mu : Bool} : CallS K (fun xs H Q => ∃ p ys, xs = [.ref p] ∧ (SqL K H p ys ∨ SqT K H p ys) ∧ ∀ l, H l = none → Q (.ref l) (upd H l (.lst ys))) (one1 (listV mu)) := by
  refine .one fun μ F H st v x Wx Q rs e p => ?_
  unfold listV at p
  cases hs : seqV st v with
  | none =>
    rw [hs] at p
    exact p.elim
  | some t =>
    obtain ⟨b, xs⟩ := t
    rw [hs] at p
    obtain ⟨a, vs, rfl, es, q⟩ := seq_ok rs e hs
    refine ⟨a, vs, rfl, ?_, (newL_ok rs es p).2⟩
    rcases q with ⟨_, q⟩ | ⟨_, q⟩
    · exact .inr (same_sqT rs.sub q)
    · exact .inl q
theorem cs_tuple : CallS K (fun xs H Q => ∃ p ys, xs = [.ref p] ∧ ((SqL K H p ys ∧ ∀ l, H l = none → Q (.ref l) (upd H l (.tup ys))) ∨ (SqT K H p ys ∧ Q (.ref p) H))) (one1 tupV) := by
  refine .one fun μ F H st v x Wx Q rs e p => ?_
  unfold tupV at p
  cases hs : seqV st v with
  | none =>
    rw [hs] at p
    exact p.elim
  | some t =>
    obtain ⟨b, xs⟩ := t
    rw [hs] at p
    obtain ⟨a, vs, rfl, es, q⟩ := seq_ok rs e hs
    refine ⟨a, vs, rfl, ?_⟩
    rcases q with ⟨_, q⟩ | ⟨_, q⟩
    · exact .inr ⟨same_sqT rs.sub q, post_here p rs (.tup q es)⟩
    · refine .inl ⟨q, fun l hl => ?_⟩
      obtain ⟨r1, x1⟩ := lay_frz (o := .tup vs) rs hl
      exact p _ _ _ _ x1 r1 (.tup (SqT.of upd_same) (es.mono x1.pre x1.sub))
theorem cs_int : CallS K (fun xs H Q => (∃ i, xs = [.int i] ∧ Q (.int i) H) ∨ ∃ k, xs = [.bl k] ∧ Q (.int (if k then 1 else 0)) H) (one1 intV) := by
  refine .one fun μ F H st v x Wx Q rs e p => ?_
  cases v with
  | int i =>
    cases e
    exact .inl ⟨i, rfl, post_here p rs (.int _)⟩
  | bl i =>
    cases e
    exact .inr ⟨i, rfl, post_here p rs (.int _)⟩
  | _ => exact p.elim
theorem cs_str : CallS K (fun xs H Q => ∃ i, xs = [.int i] ∧ i.natAbs.log2 < 1920 ∧ Q (.str (toString i)) H) (one1 strV) := by
  refine .one fun μ F H st v x Wx Q rs e p => ?_
  cases v with
  | int i =>
    cases e
    have p' : Post K (En K) Wx Q μ F H ((match decide (i.natAbs.log2 < 1920) with
      | true => M.pure (.str (toString i))
      | false => M.bad : M PV) st) := p
    cases hd : decide (i.natAbs.log2 < 1920) with
    | false =>
      rw [hd] at p'
      exact p'.elim
    | true =>
      rw [hd] at p'
      exact ⟨i, rfl, of_decide_eq_true hd, post_here p' rs (.str _)⟩
  | _ => exact p.elim
theorem cs_abs : CallS K (fun xs H Q => ∃ i, xs = [.int i] ∧ Q (.int (if i < 0 then -i else i)) H) (one1 absV') := by
  refine .one fun μ F H st v x Wx Q rs e p => ?_
  cases v with
  | int i =>
    cases e
    exact ⟨i, rfl, post_here p rs (.int _)⟩
  | _ => exact p.elim
theorem cs_gcd : CallS K rGcd (two2 gcdV) := by
  refine .two fun μ F H st v w x y Wx Q rs e e2 p => ?_
  cases v with
  | int i =>
    cases w with
    | int j =>
      cases e
      cases e2
      exact ⟨i, j, rfl, post_here p rs (.int _)⟩
    | _ => exact p.elim
  | _ => exact p.elim
end
end L3
/-! L3F: statements. -/
namespace L3
open PySem PySem.Spec PyProof.Rows L2

def SPost (K : PySem.W.Frag) (W : WX) (D : Ends) (μ : List Addr) (F H : Hp) : SRes → Prop
  | .nx ρ st => ∀ μ' F' H' σ', Ext μ F H μ' F' H' → RSt K μ' F' H' st → REnv K μ' F' ρ σ' → D.nx σ' H'
  | .rt v st => ∀ μ' F' H' u, Ext μ F H μ' F' H' → RSt K μ' F' H' st → En K μ' F' v u → D.rt u H'
  | .bk ρ st => ∀ μ' F' H' σ', Ext μ F H μ' F' H' → RSt K μ' F' H' st → REnv K μ' F' ρ σ' → D.bk σ' H'
  | .ct ρ st => ∀ μ' F' H' σ', Ext μ F H μ' F' H' → RSt K μ' F' H' st → REnv K μ' F' ρ σ' → D.ct σ' H'
  | .err c fs ρ st => ∀ μ' F' H' d σ', Ext μ F H μ' F' H' → RSt K μ' F' H' st → REnv K μ' F' ρ σ' → XdR K μ' F' H' fs d → W (.ref (He.ga K (nm c))) d σ' H'
  | .bad => False
theorem SPost.from {K : PySem.W.Frag} {W : WX} {D : Ends} {μ μ1 : List Addr} {F F1 H H1 : Hp} {r : SRes} (h : SPost K W D μ F H r) (x : Ext μ F H μ1 F1 H1) : SPost K W D μ1 F1 H1 r := by
  cases r with
  | nx ρ st => exact fun μ' F' H' v e => h μ' F' H' v (x.trans e)
  | rt ρ st => exact fun μ' F' H' v e => h μ' F' H' v (x.trans e)
  | bk ρ st => exact fun μ' F' H' v e => h μ' F' H' v (x.trans e)
  | ct ρ st => exact fun μ' F' H' v e => h μ' F' H' v (x.trans e)
  | err c fs ρ st => exact fun μ' F' H' d σ' e => h μ' F' H' d σ' (x.trans e)
  | bad => exact h
/-- a statement's reading -/
def TSm (K : PySem.W.Frag) (W : WX) (m : SM) : TS := fun D σ H => ∃ μ F ρ st, REnv K μ F ρ σ ∧ RSt K μ F H st ∧ SPost K W D μ F H (m ρ st)
section
variable {K : PySem.W.Frag} {W : WX} {D : Ends} {σ : L2.St} {H : Hp} {α β γ δ : Type} {R : List Addr → Hp → α → β → Prop} {R1 : List Addr → Hp → γ → δ → Prop}
/-- a part of a statement, then the rest -/
theorem spost_bind {μ : List Addr} {F : Hp} {ρ : Rho} {r : Res α} {f : α → Sto → SRes} (re : REnv K μ F ρ σ) (p : SPost K W D μ F H (r.toS ρ f)) :
    Post K R (fun c d H => W c d σ H) (fun x H1 => ∃ μ1 F1 st1 v, Ext μ F H μ1 F1 H1 ∧ REnv K μ1 F1 ρ σ ∧ RSt K μ1 F1 H1 st1 ∧ R μ1 F1 v x ∧ SPost K W D μ1 F1 H1 (f v st1)) μ F H r := by
  cases r with
  | ok a st => exact fun μ' F' H' v e s q => ⟨μ', F', st, a, e, re.mono e.pre e.sub, s, q, SPost.from (r := f a st) p e⟩
  | err c fs st => exact fun μ' F' H' d e s q => p μ' F' H' d σ e s (re.mono e.pre e.sub) q
  | bad => exact p
theorem TS.one {ma : Rho → M α} {f : Rho → α → Sto → SRes} (h : TSm K W (fun ρ st => (ma ρ st).toS ρ (f ρ)) D σ H) :
    TXm K R W ma σ H (fun x H1 => ∃ μ F ρ st v, REnv K μ F ρ σ ∧ RSt K μ F H1 st ∧ R μ F v x ∧ SPost K W D μ F H1 (f ρ v st)) := by
  obtain ⟨μ, F, ρ, st, re, rs, p⟩ := h
  refine ⟨μ, F, ρ, st, re, rs, ?_⟩
  exact (spost_bind (R := R) re p).imp (fun _ _ _ h => h) fun v H1 ⟨μ1, F1, st1, x, e, re1, s, q, p⟩ => ⟨μ1, F1, ρ, st1, x, re1, s, q, p⟩
theorem snx_here {μ : List Addr} {F : Hp} {ρ : Rho} {st : Sto} (p : SPost K W D μ F H (.nx ρ st)) (s : RSt K μ F H st) (re : REnv K μ F ρ σ) : D.nx σ H := p μ F H σ (Ext.refl _ _ _) s re
end
section
variable {X : Cx} {W : WX} {a b c e : Expr} {ma mb mc : Rho → M PV} {pos : Pos} {st : Stmt} {rest : List Stmt}
theorem pss_nilV : PSs X [] (TSm X.K W sSkip) := by
  refine PSs.imp pss_nil fun D σ H h => ?_
  obtain ⟨μ, F, ρ, st, re, rs, p⟩ := h
  exact snx_here p rs re
theorem pss_consV {m1 m2 : SM} (h1 : PS X st (TSm X.K W m1)) (h2 : PSs X rest (TSm X.K W m2)) : PSs X (st :: rest) (TSm X.K W (sSeq m1 m2)) := by
  refine PSs.imp (pss_cons h1 h2) fun D σ H h => ?_
  obtain ⟨μ, F, ρ, st, re, rs, p⟩ := h
  refine ⟨μ, F, ρ, st, re, rs, ?_⟩
  unfold sSeq at p
  cases hm : m1 ρ st with
  | nx ρ' st' =>
    rw [hm] at p
    exact fun μ' F' H' σ' e s q => ⟨μ', F', ρ', st', q, s, SPost.from (r := m2 ρ' st') p e⟩
  | rt v st' => rw [hm] at p; exact p
  | bk ρ' st' => rw [hm] at p; exact p
  | ct ρ' st' => rw [hm] at p; exact p
  | err c fs ρ' st' => rw [hm] at p; exact p
  | bad => rw [hm] at p; exact p
theorem ps_passV : PS X (.Pass pos) (TSm X.K W sSkip) := by
  refine PS.imp ps_pass fun D σ H h => ?_
  obtain ⟨μ, F, ρ, st, re, rs, p⟩ := h
  exact snx_here p rs re
theorem ps_breakV : PS X (.Break pos) (TSm X.K W fun ρ st => .bk ρ st) := by
  refine PS.imp ps_break fun D σ H h => ?_
  obtain ⟨μ, F, ρ, st, re, rs, p⟩ := h
  exact p μ F H σ (Ext.refl _ _ _) rs re
theorem ps_continueV : PS X (.Continue pos) (TSm X.K W fun ρ st => .ct ρ st) := by
  refine PS.imp ps_continue fun D σ H h => ?_
  obtain ⟨μ, F, ρ, st, re, rs, p⟩ := h
  exact p μ F H σ (Ext.refl _ _ _) rs re
theorem ps_exprV (he : PE X e (TEm X.K W ma)) (hs : swapsWith e none pos.line X.env = pure false) : PS X (.Expr e pos) (TSm X.K W (sExpr ma)) := by
  refine PS.imp (ps_expr he hs) fun D σ H h => ?_
  refine TX.mono (TS.one (R := En X.K) h) fun x H1 h1 => ?_
  obtain ⟨μ, F, ρ, st, v, re, rs, ev, p⟩ := h1
  exact snx_here p rs re
theorem ps_retV (he : PE X e (TEm X.K W ma)) : PS X (.Return (some e) pos) (TSm X.K W (sRet ma)) := by
  refine PS.imp (ps_ret he) fun D σ H h => ?_
  refine TX.mono (TS.one (R := En X.K) h) fun x H1 h1 => ?_
  obtain ⟨μ, F, ρ, st, v, re, rs, ev, p⟩ := h1
  exact p μ F H1 x (Ext.refl _ _ _) rs ev
theorem ps_retNV : PS X (.Return none pos) (TSm X.K W fun _ st => .rt .non st) := by
  refine PS.imp ps_retN fun D σ H h => ?_
  obtain ⟨μ, F, ρ, st, re, rs, p⟩ := h
  exact p μ F H .non (Ext.refl _ _ _) rs .non
theorem ps_ifV {sa sb : List Stmt} {tc : Rho → M Bool} {m1 m2 : SM} (hc : PT X c (TTm X.K W tc)) (ha : PSs X sa (TSm X.K W m1)) (hb : PSs X sb (TSm X.K W m2)) : PS X (.If c sa sb pos) (TSm X.K W (sIf tc m1 m2)) := by
  refine PS.imp (ps_if hc ha hb) fun D σ H h => ?_
  refine TX.mono (TS.one (R := RB) h) fun x H1 h1 => ?_
  obtain ⟨μ, F, ρ, st, k, re, rs, rfl, p⟩ := h1
  cases k with
  | true =>
    rw [if_pos rfl]
    exact ⟨μ, F, ρ, st, re, rs, p⟩
  | false =>
    rw [if_neg Bool.false_ne_true]
    exact ⟨μ, F, ρ, st, re, rs, p⟩
/-! ### targets -/
mutual
def gT (K : PySem.W.Frag) : CT → TG
  | .nm i => gName i
  | .tup l => gTup K l.length (gTs K l)
def gTs (K : PySem.W.Frag) : List CT → TGs
  | [] => gNil
  | t :: ts => gCons (gT K t) (gTs K ts)
end
/-! a written target -/
mutual
inductive TgOk (X : Cx) : Expr → CT → Prop
  | nm {x : Str} {i : Nat} {pos : Pos} (hi : X.N[i]? = some x) (hx : Loc X.env.scope x) (hf : X.fn x = true ∨ X.env.scope.names.lookup x = some .local) : TgOk X (.Name x pos) (.nm i)
  | tup {es : List Expr} {k : Nat} {pos : Pos} {ts : List CT} (h : TgsOk X es ts) : TgOk X (.Tuple es k pos) (.tup ts)
inductive TgsOk (X : Cx) : List Expr → List CT → Prop
  | nil : TgsOk X [] []
  | cons {e : Expr} {es : List Expr} {t : CT} {ts : List CT} (h : TgOk X e t) (r : TgsOk X es ts) : TgsOk X (e :: es) (t :: ts)
end
theorem assignEach_map {env : PySem.Env} {e : Expr} {es : List Expr} {t : CT} (h : TgOk X e t) : (assignEach (e :: es) env).map (·.2) = assign e env :: (assignEach es env).map (·.2) := by
  cases h <;> rfl
theorem assignEach_len {env : PySem.Env} : ∀ {es : List Expr} {ts : List CT}, TgsOk X es ts → (assignEach es env).length = ts.length ∧ (assignEach es env).findIdx? (·.1) = none
  | _, _, .nil => ⟨rfl, rfl⟩
  | _, _, .cons h r => by
    obtain ⟨h1, h2⟩ := assignEach_len (env := env) r
    cases h with
    | nm _ _ _ => exact ⟨congrArg (· + 1) h1, by simp only [assignEach, List.findIdx?_cons, h2]; rfl⟩
    | tup _ => exact ⟨congrArg (· + 1) h1, by simp only [assignEach, List.findIdx?_cons, h2]; rfl⟩
mutual
theorem pg_of (hc : X.calm = true) (hN : X.N.Nodup) : ∀ {e : Expr} {t : CT}, TgOk X e t → PG X e (gT X.K t)
  | _, _, .nm hi hx hf => by
    unfold gT
    exact pg_name hN hi hx hf
  | _, _, .tup h => by
    unfold gT
    exact pg_tup hc (pgs_of hc hN h) (assignEach_len h).1 (assignEach_len h).2
theorem pgs_of (hc : X.calm = true) (hN : X.N.Nodup) : ∀ {es : List Expr} {ts : List CT}, TgsOk X es ts → PGs X es (gTs X.K ts)
  | _, _, .nil => by
    unfold gTs
    exact pgs_nil
  | _, _, .cons h r => by
    unfold gTs
    exact pgs_cons (pg_of hc hN h) (pgs_of hc hN r) (assignEach_map h)
end
end
section
variable {K : PySem.W.Frag} {μ : List Addr} {F H : Hp} {st : Sto}
theorem wipe_set {σ : L2.St} {i : Nat} {o : Option V} : ∀ {vs : List Nat}, i ∈ vs → wipe (σ.set i o) vs = wipe σ vs
  | v :: vs, h => by
    unfold wipe
    by_cases hv : i ∈ vs
    · rw [wipe_set hv]
    · have e : i = v := by
        rcases List.mem_cons.mp h with h | h
        · exact h
        · exact absurd h hv
      subst e
      have key : ∀ ws : List Nat, i ∉ ws → wipe (σ.set i o) ws = (wipe σ ws).set i o := by
        intro ws
        induction ws with
        | nil => intro _; rfl
        | cons w ws ih =>
          intro hw
          unfold wipe
          rw [ih fun z => hw (List.mem_cons_of_mem _ z)]
          exact List.set_comm _ _ fun z => hw (by rw [z]; exact List.mem_cons_self ..)
      rw [key vs hv, List.set_set]
mutual
theorem g_sound (r : RSt K μ F H st) : ∀ (t : CT) {x : PV} {v : V} {ρ ρ' : Rho} {σ : L2.St} {Q : L2.St → Hp → Prop}, REnv K μ F ρ σ → En K μ F x v → asgP st t x ρ = some ρ' →
    (∀ σ', REnv K μ F ρ' σ' → (∀ vs : List Nat, (∀ i ∈ slots t, i ∈ vs) → wipe σ' vs = wipe σ vs) → Q σ' H) → gT K t v σ H Q
  | .nm i, x, v, ρ, ρ', σ, Q, re, e, h, q => by
    unfold gT
    unfold asgP at h
    cases h
    exact q _ (re.set i e) fun vs hv => wipe_set (hv i (by unfold slots; exact List.mem_singleton.mpr rfl))
  | .tup l, x, v, ρ, ρ', σ, Q, re, e, h, q => by
    unfold gT
    unfold asgP at h
    cases hs : seqV st x with
    | none =>
      rw [hs] at h
      cases h
    | some p =>
      obtain ⟨b, xs⟩ := p
      rw [hs] at h
      cases b with
      | false => cases h
      | true =>
        obtain ⟨a, us, rfl, es, z⟩ := seq_ok r e hs
        rcases z with ⟨_, z⟩ | ⟨z, _⟩
        · obtain ⟨hl, hg⟩ := gs_sound r l re es h fun σ' re' hw => q σ' re' fun vs hv => hw vs fun i hi => hv i (by unfold slots; exact hi)
          exact ⟨a, us, rfl, same_sqT r.sub z, hl, hg⟩
        · cases z
theorem gs_sound (r : RSt K μ F H st) : ∀ (ts : List CT) {xs : List PV} {us : List V} {ρ ρ' : Rho} {σ : L2.St} {Q : L2.St → Hp → Prop}, REnv K μ F ρ σ → Ens K μ F xs us → asgPs st ts xs ρ = some ρ' →
    (∀ σ', REnv K μ F ρ' σ' → (∀ vs : List Nat, (∀ i ∈ slotss ts, i ∈ vs) → wipe σ' vs = wipe σ vs) → Q σ' H) → us.length = ts.length ∧ gTs K ts us σ H Q
  | [], xs, us, ρ, ρ', σ, Q, re, e, h, q => by
    unfold gTs
    cases e with
    | nil =>
      unfold asgPs at h
      cases h
      exact ⟨rfl, rfl, q _ re fun _ _ => rfl⟩
    | cons _ _ =>
      unfold asgPs at h
      cases h
  | t :: ts, xs, us, ρ, ρ', σ, Q, re, e, h, q => by
    unfold gTs
    cases e with
    | nil =>
      unfold asgPs at h
      cases h
    | @cons x u xs us e1 er =>
      unfold asgPs at h
      cases h1 : asgP st t x ρ with
      | none =>
        rw [h1] at h
        cases h
      | some ρ1 =>
        rw [h1] at h
        have len : us.length = ts.length := by
          have key : ∀ (ts : List CT) {xs : List PV} {us : List V} {ρ ρ' : Rho}, Ens K μ F xs us → asgPs st ts xs ρ = some ρ' → us.length = ts.length := by
            intro ts
            induction ts with
            | nil =>
              intro xs us ρ ρ' e h
              cases e with
              | nil => rfl
              | cons _ _ =>
                unfold asgPs at h
                cases h
            | cons t ts ih =>
              intro xs us ρ ρ' e h
              cases e with
              | nil =>
                unfold asgPs at h
                cases h
              | @cons x u xs us e1 er =>
                unfold asgPs at h
                cases h1 : asgP st t x ρ with
                | none =>
                  rw [h1] at h
                  cases h
                | some ρ1 =>
                  rw [h1] at h
                  rw [List.length_cons, List.length_cons, ih er h]
          exact key ts er h
        refine ⟨by rw [List.length_cons, List.length_cons, len], u, us, rfl, ?_⟩
        refine g_sound r t re e1 h1 fun σ1 re1 w1 => ?_
        refine (gs_sound r ts re1 er h fun σ2 re2 w2 => q σ2 re2 fun vs hv => ?_).2
        rw [w2 vs fun i hi => hv i (by unfold slotss; exact List.mem_append_right _ hi), w1 vs fun i hi => hv i (by unfold slotss; exact List.mem_append_left _ hi)]
end
end
section
variable {X : Cx} {W : WX} {e tg : Expr} {ma : Rho → M PV} {pos : Pos}
theorem ps_asgV {t : CT} (hc : X.calm = true) (hN : X.N.Nodup) (he : PE X e (TEm X.K W ma)) (ht : TgOk X tg t) (hs : swapsWithSole [tg] e pos.line X.env = pure false) (hw : swappedStores [tg] e X.env = pure none) :
    PS X (.Assign [tg] e pos) (TSm X.K W (sAsg t ma)) := by
  refine PS.imp (ps_asg he (pg_of hc hN ht) hs hw (by cases ht <;> rfl)) fun D σ H h => ?_
  refine TX.mono (TS.one (R := En X.K) h) fun x H1 h1 => ?_
  obtain ⟨μ, F, ρ, st, v, re, rs, ev, p⟩ := h1
  cases hq : asgP st t v ρ with
  | none =>
    rw [hq] at p
    exact p.elim
  | some ρ' =>
    rw [hq] at p
    exact g_sound rs t re ev hq fun σ' re' _ => snx_here p rs re'
end
end L3
/-! L3G: stores by place, what is walked, for, comprehensions. -/
namespace L3
open PySem PySem.Spec PyProof.Rows L2

section
variable {K : PySem.W.Frag} {μ : List Addr} {F H : Hp} {st : Sto}
/-! ### o[i] = v -/
def rSetAny : TSet := fun o i v H Q => rSetL o i v H Q ∨ ∃ a H', o = .ref a ∧ DPut H a i v H' ∧ Q H'
theorem set_any {X : Cx} (hu : X.A.units + 1 < cLine) : PSet X rSetAny := by
  intro pins s σ H o i v ov iv u Q I ro ri rv h
  rcases h with h | ⟨a, H', rfl, g, q⟩
  · exact set_list pins s σ H o i v ov iv u Q I ro ri rv h
  · obtain rfl : ov = Value.ref a := ro
    exact d_setItem hu I g ri rv fun s' I' => ⟨H', I', q⟩
/-- an object of the store -/
theorem at_m (r : RSt K μ F H st) {k : Nat} {x : V} (e : En K μ F (.m k) x) {mo : MO} (h : st[k]? = some mo) : ∃ a, x = .ref a ∧ μ[k]? = some a ∧ ObR K μ F H a mo := by
  cases e with
  | m q => exact ⟨_, rfl, q, r.ob _ _ _ q h⟩
theorem ens_upd {a : Addr} {o : HO} {xs : List PV} {vs : List V} (e : Ens K μ F xs vs) : Ens K μ F xs vs := e
theorem set_sound {o i v : PV} {x y z : V} {st' : Sto} {Q : Hp → Prop} (r : RSt K μ F H st) (eo : En K μ F o x) (ei : En K μ F i y) (ev : En K μ F v z) (h : setV o i v st = .ok () st')
    (q : ∀ H', Ext μ F H μ F H' → RSt K μ F H' st' → Q H') : rSetAny x y z H Q := by
  unfold setV at h
  cases o with
  | m k =>
    dsimp only at h
    cases hs : st[k]? with
    | none =>
      rw [hs] at h
      cases h
    | some mo =>
      rw [hs] at h
      obtain ⟨a, rfl, hk, ob⟩ := at_m r eo hs
      cases mo with
      | lst xs =>
        cases i with
        | int j =>
          cases ei
          dsimp only at h
          cases hx : ixN xs.length j with
          | none =>
            rw [hx] at h
            cases h
          | some n =>
            rw [hx] at h
            cases h
            obtain ⟨hF, vs, h1, h2⟩ := ob
            refine .inl ⟨a, vs, j, n, rfl, rfl, h1, by rw [← h2.length]; exact hx, ?_⟩
            exact q _ (ext_put (List.mem_of_getElem? hk)) (r.put hk hs hF ⟨hF, _, upd_same, Ens.set ev n h2⟩)
        | _ => cases h
      | dct kvs =>
        cases i with
        | str s =>
          cases ei
          dsimp only at h
          cases hx : lineOk (kvs.length + 1) with
          | false =>
            rw [hx] at h
            cases h
          | true =>
            rw [hx] at h
            cases h
            obtain ⟨hF, ks, h1, h2⟩ := ob
            have hl := lineOk_le hx
            rw [h2.length] at hl
            refine .inr ⟨a, _, rfl, DPut.k (k := Sum.inr s) h1 hl, ?_⟩
            exact q _ (ext_put (List.mem_of_getElem? hk)) (r.put hk hs hF ⟨hF, _, upd_same, put_ok ev h2⟩)
        | _ => cases h
      | _ => cases h
  | _ => cases h
theorem app_sound {o v : PV} {x z : V} {Wx : XK} {Q : VK} (r : RSt K μ F H st) (eo : En K μ F o x) (ev : En K μ F v z) (p : Post K (En K) Wx Q μ F H (appV o v st)) :
    (∃ a vs, x = .ref a ∧ H a = some (.lst vs)) ∧ rAppend x [z] H Q := by
  unfold appV at p
  cases o with
  | m k =>
    dsimp only at p
    cases hs : st[k]? with
    | none =>
      rw [hs] at p
      exact p.elim
    | some mo =>
      rw [hs] at p
      obtain ⟨a, rfl, hk, ob⟩ := at_m r eo hs
      cases mo with
      | lst xs =>
        dsimp only at p
        cases hx : lineOk (xs.length + 1) with
        | false =>
          rw [hx] at p
          exact p.elim
        | true =>
          rw [hx] at p
          obtain ⟨hF, vs, h1, h2⟩ := ob
          have hl := lineOk_le hx
          rw [h2.length] at hl
          refine ⟨⟨a, vs, rfl, h1⟩, a, vs, z, rfl, rfl, h1, hl, ?_⟩
          exact p _ _ _ _ (ext_put (List.mem_of_getElem? hk)) (r.put hk hs hF ⟨hF, _, upd_same, h2.append (.one ev)⟩) .non
      | _ => exact p.elim
  | _ => exact p.elim
end
section
variable {X : Cx} {W : WX} {a b c e o i : Expr} {ma mb mc mo mi m : Rho → M PV} {pos p2 apos cpos : Pos}
theorem ps_subV (hu : X.A.units + 1 < cLine) (he : PE X e (TEm X.K W m)) (ho : PE X o (TEm X.K W mo)) (hi : PE X i (TEm X.K W mi)) (hs : swapsWithSole [.Subscript o i p2] e pos.line X.env = pure false) (hw : swappedStores [.Subscript o i p2] e X.env = pure none)
    (ha : ∀ v, assign (.Subscript o i p2) X.env v = (do
      let ov ← holding [v] (eval o X.env)
      let iv ← holding [v, ov] (eval i X.env)
      standAt p2
      holding [v, ov, iv] (setItem ov iv v)
      release [v, ov, iv] [])) : PS X (.Assign [.Subscript o i p2] e pos) (TSm X.K W (sSub mo mi m)) := by
  refine PS.imp (ps_asg he (pg_sub ho hi (set_any hu) ha) hs hw rfl) fun D σ H h => ?_
  refine TX.mono (TS.one (R := En X.K) h) fun x H1 h1 => ?_
  obtain ⟨μ, F, ρ, st, v, re, rs, ev, p⟩ := h1
  refine ⟨μ, F, ρ, st, re, rs, ?_⟩
  refine (spost_bind (R := En X.K) re p).imp (fun _ _ _ h => h) fun x2 H2 ⟨μ2, F2, st2, v2, x2', re2, rs2, ev2, p2⟩ => ?_
  refine ⟨μ2, F2, ρ, st2, re2, rs2, ?_⟩
  refine (spost_bind (R := En X.K) re2 p2).imp (fun _ _ _ h => h) fun x3 H3 ⟨μ3, F3, st3, v3, x3', re3, rs3, ev3, p3⟩ => ?_
  cases hq : setV v2 v3 v st3 with
  | ok z st4 =>
    rw [hq] at p3
    exact set_sound rs3 (ev2.mono x3'.pre x3'.sub) ev3 ((ev.mono x2'.pre x2'.sub).mono x3'.pre x3'.sub) hq fun H4 x4 rs4 => p3 _ _ _ _ x4 rs4 (re3.mono x4.pre x4.sub)
  | err c fs st4 =>
    exfalso
    revert hq
    unfold setV
    cases v2 with
    | m k =>
      dsimp only
      cases st3[k]? with
      | none => intro h; cases h
      | some mo =>
        cases mo <;> cases v3 <;> (try (intro h; cases h))
        · rename_i xs j
          dsimp only
          cases ixN xs.length j <;> (intro h; cases h)
        · rename_i xs j
          dsimp only
          cases lineOk (xs.length + 1) <;> (intro h; cases h)
    | _ => intro h; cases h
  | bad =>
    rw [hq] at p3
    exact p3.elim
theorem pe_appV (ho : PE X o (TEm X.K W mo)) (he : PE X e (TEm X.K W m)) (hbase : attributeBase o "append" X.env (eval o X.env) = eval o X.env) (hline : (apos.endLine == cpos.line) = true)
    (hs : starEach [e] X.env = (false, eval e X.env) :: starEach [] X.env) : PE X (.Call (.Attribute o "append" apos) [e] [] cpos) (TEm X.K W fun ρ => M.bind (mo ρ) fun v => M.bind (isLst v) fun _ => M.bind (m ρ) fun w => appV v w) := by
  refine PE.imp (pe_bm PySem.F.plainAttrs_list PySem.F.slot_list_append PySem.F.type_list_append mt_append ho (pa_cons he pa_nil hs) hbase (by rw [hs] <;> rfl) hline hs rfl) fun σ H Q h => ?_
  refine TX.mono (TX.one (R1 := En X.K) (f := fun v ρ => M.bind (isLst v) fun _ => M.bind (m ρ) fun w => appV v w) h) fun x H1 h1 => ?_
  obtain ⟨μ, F, ρ, st, v, re, rs, ev, p⟩ := h1
  have p1 : Post X.K (En X.K) (fun c d H => W c d σ H) Q μ F H1 ((isLst v st).andThen fun _ => M.bind (m ρ) fun w => appV v w) := p
  cases v with
  | m k =>
    unfold isLst at p1
    dsimp only at p1
    cases hs : st[k]? with
    | none =>
      rw [hs] at p1
      exact p1.elim
    | some mo =>
      rw [hs] at p1
      cases mo with
      | lst xs =>
        obtain ⟨a, rfl, hk, ob⟩ := at_m rs ev hs
        obtain ⟨hF, vs, h1, h2⟩ := ob
        refine ⟨.inl ⟨rfl, vs, .of h1⟩, ?_⟩
        refine ⟨μ, F, ρ, st, re, rs, ?_⟩
        refine (Post.bind (R := En X.K) (r := m ρ st) (f := fun w => appV (.m k) w) p1).imp (fun _ _ _ h => h) fun z H3 ⟨μ3, F3, st3, w, x3, s3, ew, q3⟩ => ?_
        exact (app_sound s3 (ev.mono x3.pre x3.sub) ew q3).2
      | _ => exact p1.elim
  | _ => exact p1.elim
end

/-! ### what is walked -/
section
variable {K : PySem.W.Frag} {μ : List Addr} {F H : Hp} {st : Sto}
theorem freeze_one {k : Nat} {a : Addr} {o : HO} {mo : MO} {w : PV} (r : RSt K μ F H st) (hk : μ[k]? = some a) (hs : st[k]? = some mo) (hF : F a = none) (hH : H a = some o) (en : En K μ (upd F a o) w (.ref a)) :
    RSt K μ (upd F a o) H (st.set k (.frz w)) ∧ Ext μ F H μ (upd F a o) H := by
  refine ⟨⟨by rw [List.length_set]; exact r.len, r.nd, fun b u q => ?_, fun i b m h1 h2 => ?_, r.there⟩, ⟨Pre.refl _, same_upd hF, fun _ _ q _ => q, fun b h n => absurd h n, fun b h1 h2 _ => ?_⟩⟩
  · by_cases hb : b = a
    · rw [hb, upd_same] at q
      rw [hb, hH]
      exact q
    · rw [upd_ne hb] at q
      exact r.sub b u q
  · by_cases hi : k = i
    · subst hi
      rw [hk] at h1
      cases h1
      rw [List.getElem?_set_self (List.getElem?_eq_some_iff.mp hs).1] at h2
      cases h2
      exact en
    · rw [List.getElem?_set_ne hi] at h2
      have hb : b ≠ a := by
        intro z
        rw [z] at h1
        exact hi (nodup_ixA r.nd hk h1)
      exact (r.ob i b m h1 h2).mono (Pre.refl _) (same_upd hF) (fun q => by rw [upd_ne hb]; exact q) fun u q => q
  · by_cases z : b = a
    · rw [z]
      exact List.mem_of_getElem? hk
    · rw [upd_ne z] at h1
      exact absurd h2 h1
theorem freeze_ok {v w : PV} {x : V} {st' : Sto} (r : RSt K μ F H st) (e : En K μ F v x) (h : freezeV v st = .ok w st') : ∃ F', RSt K μ F' H st' ∧ Ext μ F H μ F' H ∧ En K μ F' w x := by
  have plain : ∀ {v : PV}, En K μ F v x → (Res.ok v st : Res PV) = .ok w st' → ∃ F', RSt K μ F' H st' ∧ Ext μ F H μ F' H ∧ En K μ F' w x := fun e h => by
    cases h
    exact ⟨F, r, Ext.refl _ _ _, e⟩
  unfold freezeV at h
  cases v with
  | m k =>
    dsimp only at h
    cases hs : st[k]? with
    | none =>
      rw [hs] at h
      cases h
    | some mo =>
      rw [hs] at h
      obtain ⟨a, rfl, hk, ob⟩ := at_m r e hs
      cases mo with
      | frz w' =>
        cases h
        exact ⟨F, r, Ext.refl _ _ _, ob⟩
      | lst xs =>
        cases h
        obtain ⟨hF, vs, h1, h2⟩ := ob
        have en : En K μ (upd F a (.lst vs)) (.lst xs) (.ref a) := .lst upd_same (h2.mono (Pre.refl _) (same_upd hF))
        obtain ⟨r1, x1⟩ := freeze_one r hk hs hF h1 en
        exact ⟨_, r1, x1, en⟩
      | dct xs =>
        cases h
        obtain ⟨hF, vs, h1, h2⟩ := ob
        have en : En K μ (upd F a (.dK vs)) (.dct xs) (.ref a) := .dct upd_same (h2.mono (Pre.refl _) (same_upd hF))
        obtain ⟨r1, x1⟩ := freeze_one r hk hs hF h1 en
        exact ⟨_, r1, x1, en⟩
      | ins c fs =>
        cases h
        obtain ⟨hF, dx, gs, h1, h2⟩ := ob
        have en : En K μ (upd F a (.ins (He.ga K (nm c)) dx gs)) (.ins c fs) (.ref a) := .ins upd_same (h2.mono (Pre.refl _) (same_upd hF))
        obtain ⟨r1, x1⟩ := freeze_one r hk hs hF h1 en
        exact ⟨_, r1, x1, en⟩
  | _ => exact plain e h
/-- J walks the things xs -/
def IterR (K : PySem.W.Frag) (μ : List Addr) (F : Hp) (xs : List PV) (J : It) : Prop :=
  ∃ (G : Hp → Prop) (Y : Nat → Hp → V → Hp → Prop), Walk J xs.length G Y ∧ (∀ H, Same F H → G H) ∧
    ∀ (i : Nat) (H : Hp) (v : V) (H' : Hp) (μ' : List Addr) (F' : Hp) (st' : Sto), i < xs.length → Pre μ μ' → Same F F' → RSt K μ' F' H st' → Y i H v H' →
      ∃ F'' x, Ext μ' F' H μ' F'' H' ∧ RSt K μ' F'' H' st' ∧ xs[i]? = some x ∧ En K μ' F'' x v
theorem Pre.trans {a b c : List Addr} (h : Pre a b) (g : Pre b c) : Pre a c := fun i x e => g i x (h i x e)
theorem mono_iter : MonoR (IterR K) := fun μ μ' F F' xs J p s h => by
  obtain ⟨G, Y, w, g, y⟩ := h
  exact ⟨G, Y, w, fun H q => g H (s.trans q), fun i H v H' μ1 F1 st1 hi p1 s1 r q => y i H v H' μ1 F1 st1 hi (p.trans p1) (s.trans s1) r q⟩
theorem at_lt {α : Type} {xs : List α} {i : Nat} (h : i < xs.length) : ∃ x, xs[i]? = some x := ⟨xs[i], List.getElem?_eq_getElem h⟩
/-- the items of a list, a tuple -/
theorem iter_at {xs : List PV} {vs : List V} {J : It} {G : Hp → Prop} (e : Ens K μ F xs vs) (w : Walk J vs.length G (YAt vs)) (g : ∀ H, Same F H → G H) : IterR K μ F xs J := by
  refine ⟨G, YAt vs, by rw [e.length]; exact w, g, fun i H v H' μ' F' st' hi p s r q => ?_⟩
  obtain ⟨rfl, hv⟩ := q
  obtain ⟨x, hx⟩ := at_lt hi
  obtain ⟨v', h1, h2⟩ := e.get hx
  rw [hv] at h1
  cases h1
  exact ⟨F', x, Ext.refl _ _ _, r, hx, h2.mono p s⟩
theorem iter_range {i j : Int} : IterR K μ F (rangeV i j) (Itr i (j - i).toNat) := by
  have hl : (rangeV i j).length = (j - i).toNat := by
    unfold rangeV
    rw [List.length_map, List.length_range]
  refine ⟨fun _ => True, _, by rw [hl]; exact walk_range, fun _ _ => True.intro, fun n H v H' μ' F' st' hi p s r q => ?_⟩
  obtain ⟨rfl, rfl⟩ := q
  refine ⟨F', .int (i + n), Ext.refl _ _ _, r, ?_, .int _⟩
  unfold rangeV
  rw [List.getElem?_map, List.getElem?_range (by rw [hl] at hi; exact hi)]
  rfl
/-- new pairs -/
theorem iter_pair {xs : List PV} {J : It} {G : Hp → Prop} {f g' : Nat → Option V} (w : Walk J xs.length G (YPair f g')) (g : ∀ H, Same F H → G H)
    (h : ∀ i a b, i < xs.length → f i = some a → g' i = some b → ∃ x y, xs[i]? = some (.tup [x, y]) ∧ En K μ F x a ∧ En K μ F y b) : IterR K μ F xs J := by
  refine ⟨G, _, w, g, fun i H v H' μ' F' st' hi p s r q => ?_⟩
  obtain ⟨T, a, b, rfl, hT, rfl, h1, h2⟩ := q
  obtain ⟨x, y, h3, h4, h5⟩ := h i a b hi h1 h2
  obtain ⟨r1, x1⟩ := lay_frz (o := .tup [a, b]) r hT
  refine ⟨_, _, x1, r1, h3, .tup (SqT.of upd_same) (.cons ((h4.mono p s).mono x1.pre x1.sub) (.cons ((h5.mono p s).mono x1.pre x1.sub) .nil))⟩
theorem len_enum (xs : List PV) : (enumP xs).length = xs.length := by
  unfold enumP
  rw [List.length_zipWith, List.length_range, Nat.min_self]
theorem iter_enum {xs : List PV} {vs : List V} {a : Addr} (e : Ens K μ F xs vs) (h : F a = some (.lst vs)) : IterR K μ F (enumP xs) (Ite K a) := by
  refine iter_pair (f := fun i => some (.int (i : Nat))) (g' := fun i => vs[i]?) (G := fun H => SqL K H a vs) (by rw [len_enum, e.length]; exact walk_enum) (fun H s => .of (s _ _ h)) fun i u b hi h1 h2 => ?_
  rw [len_enum] at hi
  obtain ⟨x, hx⟩ := at_lt hi
  obtain ⟨v', h3, h4⟩ := e.get hx
  rw [h2] at h3
  cases h3
  cases h1
  refine ⟨.int (i : Nat), x, ?_, .int _, h4⟩
  unfold enumP
  rw [List.getElem?_zipWith, List.getElem?_range hi, hx]
theorem iter_zip {xs ys : List PV} {vs ws : List V} {a b : Addr} (e : Ens K μ F xs vs) (e2 : Ens K μ F ys ws) (h : F a = some (.lst vs)) (h2 : F b = some (.lst ws)) : IterR K μ F (zipP xs ys) (Itz K a b) := by
  have hl : (zipP xs ys).length = min vs.length ws.length := by
    unfold zipP
    rw [List.length_zipWith, e.length, e2.length]
  refine iter_pair (f := fun i => vs[i]?) (g' := fun i => ws[i]?) (G := fun H => SqL K H a vs ∧ SqL K H b ws) (walk_zip hl) (fun H s => ⟨.of (s _ _ h), .of (s _ _ h2)⟩) fun i u w hi h1 h3 => ?_
  obtain ⟨x, hx, ex⟩ := e.getV h1
  obtain ⟨y, hy, ey⟩ := e2.getV h3
  refine ⟨x, y, ?_, ex, ey⟩
  unfold zipP
  rw [List.getElem?_zipWith, hx, hy]
theorem seqT_ok {v : PV} {x : V} {xs : List PV} {b : Bool} (e : En K μ F v x) (h : seqT v = some (b, xs)) :
    ∃ a vs, x = .ref a ∧ Ens K μ F xs vs ∧ ((b = true ∧ SqT K F a vs) ∨ (b = false ∧ SqL K F a vs)) := by
  cases v with
  | lst ys =>
    cases h
    cases e with
    | lst h r' => exact ⟨_, _, rfl, r', .inr ⟨rfl, .of h⟩⟩
  | ro ys =>
    cases h
    cases e with
    | ro h r' => exact ⟨_, _, rfl, r', .inr ⟨rfl, h⟩⟩
  | tup ys =>
    cases h
    cases e with
    | tup h r' => exact ⟨_, _, rfl, r', .inl ⟨rfl, h⟩⟩
  | _ => cases h
end
section
variable {X : Cx} {W : WX} {tg e e2 : Expr} {m m2 : Rho → M PV} {p pos tpos : Pos}
theorem PI.imp {wi wi' : TI} {tg iter : Expr} (h : PI X tg iter wi) (i : ∀ σ H R, wi' σ H R → wi σ H R) : PI X tg iter wi' := ⟨fun pins s σ H R I q => h.run pins s σ H R I (i σ H R q)⟩
/-- a list or a tuple -/
theorem pi_seq {l : Expr} {tl : TE} (hl : PE X l tl) : PI X tg l (fun σ H R => tl σ H fun x H1 => ∃ a, x = .ref a ∧ (((∃ xs, SqL X.K H1 a xs) ∧ R (Itl X.K a) H1) ∨ ((∃ xs, SqT X.K H1 a xs) ∧ R (Itt X.K a) H1))) := by
  refine ⟨fun pins s σ H R I h => ?_⟩
  refine thn (hl.run pins s σ H _ I h) fun v s1 ⟨x, H1, I1, r1, q1⟩ => ?_
  obtain ⟨a, e, q⟩ := q1
  subst e
  cases r1
  rcases q with ⟨⟨xs, hq⟩, q⟩ | ⟨⟨xs, hq⟩, q⟩
  · obtain ⟨its, rv, p, hz⟩ := I1.list hq
    refine wpAny_pyIter_list p.isList ?_
    refine ⟨s1.heap.objs.size, [s1.heap.objs.size], _, _, H1, rfl, I1.kept (t' := s1.toks) fun b o e => Heap.get?_push_of_some _ e, turn_list a _, ⟨_, Heap.get?_push_size _ rfl, rfl, rfl⟩, fun b hb => ?_, q⟩
    have e : b = s1.heap.objs.size := by simpa using hb
    subst e
    exact I1.fpOk (Nat.le_refl _) (I1.hok.fresh (Nat.le_refl _))
  · obtain ⟨its, rv, p, hz⟩ := I1.tuple hq
    refine wpAny_pyIter_tuple (show s1.heap.IsTuple a its.toArray from p) ?_
    refine ⟨s1.heap.objs.size, [s1.heap.objs.size], _, _, H1, rfl, I1.kept (t' := s1.toks) fun b o e => Heap.get?_push_of_some _ e, turn_tuple a _, ⟨_, Heap.get?_push_size _ rfl, rfl, rfl⟩, fun b hb => ?_, q⟩
    have e : b = s1.heap.objs.size := by simpa using hb
    subst e
    exact I1.fpOk (Nat.le_refl _) (I1.hok.fresh (Nat.le_refl _))
abbrev TIm (K : PySem.W.Frag) (W : WX) (m : Rho → M (List PV)) : TI := fun σ H R => TXm K (IterR K) W m σ H R
/-- the outcome of freezing, then a view of it -/
theorem items_bind {K : PySem.W.Frag} {μ : List Addr} {F H : Hp} {st : Sto} {v : PV} {x : V} {Wx : XK} {α β : Type} {R : List Addr → Hp → α → β → Prop} {Q : β → Hp → Prop} {f : PV → M α} (r : RSt K μ F H st) (e : En K μ F v x)
    (p : Post K R Wx Q μ F H ((freezeV v st).andThen f)) : ∃ F' w st', RSt K μ F' H st' ∧ Ext μ F H μ F' H ∧ En K μ F' w x ∧ Post K R Wx Q μ F' H (f w st') := by
  cases h : freezeV v st with
  | ok w st' =>
    rw [h] at p
    obtain ⟨F', r1, x1, e1⟩ := freeze_ok r e h
    exact ⟨F', w, st', r1, x1, e1, Post.from (r := f w st') p x1⟩
  | err c fs st' =>
    exfalso
    revert h
    unfold freezeV
    cases v with
    | m k =>
      dsimp only
      cases st[k]? with
      | none => intro h; cases h
      | some mo => cases mo <;> (intro h; cases h)
    | _ => intro h; cases h
  | bad =>
    rw [h] at p
    exact p.elim
theorem pi_valV (he : PE X e (TEm X.K W m)) : PI X tg e (TIm X.K W fun ρ => M.bind (m ρ) itemsV) := by
  refine PI.imp (pi_seq he) fun σ H R h => ?_
  refine TX.mono (TX.one (R1 := En X.K) (f := fun v _ => itemsV v) h) fun x H1 h1 => ?_
  obtain ⟨μ, F, ρ, st, v, re, rs, ev, p⟩ := h1
  obtain ⟨F', w, st', r1, x1, e1, q⟩ := items_bind rs ev p
  cases hs : seqT w with
  | none =>
    rw [hs] at q
    exact q.elim
  | some t =>
    obtain ⟨b, xs⟩ := t
    rw [hs] at q
    obtain ⟨a, vs, rfl, es, z⟩ := seqT_ok e1 hs
    refine ⟨a, rfl, ?_⟩
    rcases z with ⟨_, z⟩ | ⟨_, z⟩
    · exact .inr ⟨⟨vs, same_sqT r1.sub z⟩, post_here q r1 (iter_at es walk_tup fun H s => same_sqT s z)⟩
    · exact .inl ⟨⟨vs, r1.sub.seq z⟩, post_here q r1 (iter_at es walk_list fun H s => s.seq z)⟩
end
end L3
/-! L3H: for, comprehensions. -/
namespace L3
open PySem PySem.Spec PyProof.Rows L2

section
variable {X : Cx} {W : WX} {tg e e2 : Expr} {m m2 : Rho → M PV} {p pos tpos : Pos}
/-- range(..) -/
theorem pi_rng1V {a : Expr} {mr : Rho → M (List PV)} (hg : Gl X "range") (hm : X.mg "range" = none) (ha : PA X [a] (TAm X.K W mr)) (hs : starEach [a] X.env = [(false, eval a X.env)]) :
    PI X tg (.Call (.Name "range" p) [a] [] pos) (TIm X.K W fun ρ => M.bind (mr ρ) range1) := by
  refine PI.imp (pi_range1 hg hm ha hs) fun σ H R h => ?_
  refine TX.mono (TX.one (R1 := Ens X.K) (f := fun v _ => range1 v) h) fun vs H1 h1 => ?_
  obtain ⟨μ, F, ρ, st, v, re, rs, ev, p⟩ := h1
  cases ev with
  | nil => exact p.elim
  | @cons x u xs us e1 er =>
    cases er with
    | nil =>
      cases x with
      | int j =>
        cases e1
        have p' : Post X.K (IterR X.K) (fun c d H => W c d σ H) R μ F H1 ((match rngOk j with
          | true => M.pure (rangeV 0 j)
          | false => M.bad : M (List PV)) st) := p
        cases hr : rngOk j with
        | false =>
          rw [hr] at p'
          exact p'.elim
        | true =>
          rw [hr] at p'
          unfold rngOk at hr
          obtain ⟨h1, h2⟩ := Bool.and_eq_true_iff.mp hr
          refine ⟨j, rfl, of_decide_eq_true h1, of_decide_eq_true h2, ?_⟩
          have it : IterR X.K μ F (rangeV 0 j) (Itr 0 (j - 0).toNat) := iter_range
          rw [Int.sub_zero] at it
          exact post_here p' rs it
      | _ => exact p.elim
    | cons _ _ => 
      cases x <;> exact p.elim
theorem pi_rng2V {a b : Expr} {mr : Rho → M (List PV)} (hg : Gl X "range") (hm : X.mg "range" = none) (ha : PA X [a, b] (TAm X.K W mr)) (hs : starEach [a, b] X.env = [(false, eval a X.env), (false, eval b X.env)]) (hs2 : starEach [b] X.env = [(false, eval b X.env)]) :
    PI X tg (.Call (.Name "range" p) [a, b] [] pos) (TIm X.K W fun ρ => M.bind (mr ρ) range2) := by
  refine PI.imp (pi_range2 hg hm ha hs hs2) fun σ H R h => ?_
  refine TX.mono (TX.one (R1 := Ens X.K) (f := fun v _ => range2 v) h) fun vs H1 h1 => ?_
  obtain ⟨μ, F, ρ, st, v, re, rs, ev, p⟩ := h1
  cases ev with
  | nil => exact p.elim
  | @cons x u xs us e1 er =>
    cases er with
    | nil => cases x <;> exact p.elim
    | @cons y u2 ys us2 e2 er2 =>
      cases er2 with
      | cons _ _ => cases x <;> (try exact p.elim) <;> cases y <;> exact p.elim
      | nil =>
        cases x with
        | int i =>
          cases y with
          | int j =>
            cases e1
            cases e2
            have p' : Post X.K (IterR X.K) (fun c d H => W c d σ H) R μ F H1 ((match rngOk i && rngOk j with
              | true => M.pure (rangeV i j)
              | false => M.bad : M (List PV)) st) := p
            cases hr : (rngOk i && rngOk j) with
            | false =>
              rw [hr] at p'
              exact p'.elim
            | true =>
              rw [hr] at p'
              obtain ⟨hr1, hr2⟩ := Bool.and_eq_true_iff.mp hr
              unfold rngOk at hr1 hr2
              obtain ⟨h1, h2⟩ := Bool.and_eq_true_iff.mp hr1
              obtain ⟨h3, h4⟩ := Bool.and_eq_true_iff.mp hr2
              exact ⟨i, j, rfl, ⟨of_decide_eq_true h1, of_decide_eq_true h2, of_decide_eq_true h3, of_decide_eq_true h4⟩, post_here p' rs iter_range⟩
          | _ => exact p.elim
        | _ => exact p.elim
theorem lstT_ok {K : PySem.W.Frag} {μ : List Addr} {F : Hp} {v : PV} {x : V} {xs : List PV} (e : En K μ F v x) (h : lstT v = some xs) : ∃ a vs, x = .ref a ∧ Ens K μ F xs vs ∧ F a = some (.lst vs) := by
  cases v with
  | lst ys =>
    cases h
    cases e with
    | lst h r' => exact ⟨_, _, rfl, r', h⟩
  | _ => cases h
/-- enumerate(a list) -/
theorem pi_enumV {a : Expr} {mr : Rho → M (List PV)} {elts : List Expr} {kk : Nat} (hg : Gl X "enumerate") (hm : X.mg "enumerate" = none) (ha : PA X [a] (TAm X.K W mr)) (hs : starEach [a] X.env = [(false, eval a X.env)]) :
    PI X (.Tuple elts kk tpos) (.Call (.Name "enumerate" p) [a] [] pos) (TIm X.K W fun ρ => M.bind (mr ρ) (fun l => match l with
      | [v] => enumV v
      | _ => M.bad)) := by
  refine PI.imp (pi_enum hg hm ha hs) fun σ H R h => ?_
  refine TX.mono (TX.one (R1 := Ens X.K) (f := fun l _ => match l with
      | [v] => enumV v
      | _ => M.bad) h) fun vs H1 h1 => ?_
  obtain ⟨μ, F, ρ, st, v, re, rs, ev, p⟩ := h1
  cases ev with
  | nil => exact p.elim
  | @cons x u xs us e1 er =>
    cases er with
    | cons _ _ => exact p.elim
    | nil =>
      obtain ⟨F', w, st', r1, x1, e1', q⟩ := items_bind rs e1 p
      cases hl : lstT w with
      | none =>
        rw [hl] at q
        exact q.elim
      | some ys =>
        rw [hl] at q
        obtain ⟨a', vs, rfl, es, hF⟩ := lstT_ok e1' hl
        exact ⟨a', vs, rfl, .of (r1.sub _ _ hF), post_here q r1 (iter_enum es hF)⟩
theorem pi_zipV {a b : Expr} {mr : Rho → M (List PV)} {elts : List Expr} {kk : Nat} (hg : Gl X "zip") (hm : X.mg "zip" = none) (ha : PA X [a, b] (TAm X.K W mr)) (hs : starEach [a, b] X.env = (false, eval a X.env) :: starEach [b] X.env)
    (hpl : (backTo pos (starEach [b] X.env)).any (·.1) = false) :
    PI X (.Tuple elts kk tpos) (.Call (.Name "zip" p) [a, b] [] pos) (TIm X.K W fun ρ => M.bind (mr ρ) zipV) := by
  refine PI.imp (pi_zip hg hm ha hs hpl) fun σ H R h => ?_
  refine TX.mono (TX.one (R1 := Ens X.K) (f := fun l _ => zipV l) h) fun vs H1 h1 => ?_
  obtain ⟨μ, F, ρ, st, v, re, rs, ev, p⟩ := h1
  cases ev with
  | nil => exact p.elim
  | @cons x u xs us e1 er =>
    cases er with
    | nil => exact p.elim
    | @cons y u2 ys us2 e2 er2 =>
      cases er2 with
      | cons _ _ => exact p.elim
      | nil =>
        obtain ⟨F1, w, st1, r1, x1, e1', q⟩ := items_bind rs e1 p
        obtain ⟨F2, w2, st2, r2, x2, e2', q2⟩ := items_bind r1 (e2.mono x1.pre x1.sub) q
        cases hl : lstT w with
        | none =>
          rw [hl] at q2
          exact q2.elim
        | some xs' =>
          cases hl2 : lstT w2 with
          | none =>
            rw [hl, hl2] at q2
            exact q2.elim
          | some ys' =>
            rw [hl, hl2] at q2
            obtain ⟨a', vs, rfl, es, hF⟩ := lstT_ok (e1'.mono x2.pre x2.sub) hl
            obtain ⟨b', ws, rfl, es2, hF2⟩ := lstT_ok e2' hl2
            exact ⟨a', b', vs, ws, rfl, .of (r2.sub _ _ hF), .of (r2.sub _ _ hF2), post_here q2 r2 (iter_zip es es2 hF hF2)⟩
end
theorem drop_at {α : Type} {xs : List α} {i : Nat} {x : α} (h : xs[i]? = some x) : xs.drop i = x :: xs.drop (i + 1) := by
  obtain ⟨h1, h2⟩ := List.getElem?_eq_some_iff.mp h
  rw [List.drop_eq_getElem_cons h1, h2]
section
variable {X : Cx} {W : WX} {tg iter elt : Expr} {pos : Pos}
theorem ps_forV {t : CT} {mi : Rho → M (List PV)} {mb : SM} {body : List Stmt} (hp : PassesOwn (model X.prog X.w) X.A X.env X.xe) (hc : X.calm = true) (hN : X.N.Nodup) (hi : PI X tg iter (TIm X.K W mi)) (ht : TgOk X tg t) (hb : PSs X body (TSm X.K W mb))
    (hs : ∀ x, foldedSetIterable iter X.env x = pure x) : PS X (.For tg iter body [] pos) (TSm X.K W (sFor t mi mb)) := by
  refine PS.imp (ps_for hp hc hi (pg_of hc hN ht) hb hs) fun D σ H h => ?_
  refine TX.mono (TS.one (R := IterR X.K) h) fun J H1 h1 => ?_
  obtain ⟨μ, F, ρ, st, xs, re, rs, ⟨G, Y, wk, hG, hY⟩, p⟩ := h1
  refine for_it wk (fun i σ H => ∃ μ' F' ρ' st', Pre μ μ' ∧ Same F F' ∧ REnv X.K μ' F' ρ' σ ∧ RSt X.K μ' F' H st' ∧ SPost X.K W D μ' F' H (forS t mb (xs.drop i) ρ' st'))
    ⟨μ, F, ρ, st, Pre.refl _, Same.refl _, re, rs, by rw [List.drop_zero]; exact p⟩ ?_ ?_ ?_
  · rintro i σ H _ ⟨μ', F', ρ', st', p1, s1, re', rs', _⟩
    exact hG H (s1.trans rs'.sub)
  · rintro i v σ H H' hi ⟨μ', F', ρ', st', p1, s1, re', rs', q⟩ y
    obtain ⟨F'', x, x1, r1, hx, ex⟩ := hY i H v H' μ' F' st' hi p1 s1 rs' y
    rw [drop_at hx] at q
    have q1 : SPost X.K W D μ' F' H (match asgP st' t x ρ' with
      | none => .bad
      | some ρ1 => match mb ρ1 st' with
        | .nx ρ2 st2 => forS t mb (xs.drop (i + 1)) ρ2 st2
        | .ct ρ2 st2 => forS t mb (xs.drop (i + 1)) ρ2 st2
        | .bk ρ2 st2 => .nx ρ2 st2
        | r => r) := q
    cases ha : asgP st' t x ρ' with
    | none =>
      rw [ha] at q1
      exact q1.elim
    | some ρ1 =>
      rw [ha] at q1
      refine g_sound r1 t (re'.mono x1.pre x1.sub) ex ha fun σ2 re2 _ => ⟨μ', F'', ρ1, st', re2, r1, ?_⟩
      have q2 := SPost.from q1 x1
      dsimp only at q2
      have again : ∀ {ρ2 : Rho} {st2 : Sto}, SPost X.K W D μ' F'' H' (forS t mb (xs.drop (i + 1)) ρ2 st2) → ∀ (μ3 : List Addr) (F3 H3 : Hp) (σ3 : L2.St), Ext μ' F'' H' μ3 F3 H3 → RSt X.K μ3 F3 H3 st2 → REnv X.K μ3 F3 ρ2 σ3 →
          ∃ μ' F' ρ' st', Pre μ μ' ∧ Same F F' ∧ REnv X.K μ' F' ρ' σ3 ∧ RSt X.K μ' F' H3 st' ∧ SPost X.K W D μ' F' H3 (forS t mb (xs.drop (i + 1)) ρ' st') := fun {ρ2 st2} q3 μ3 F3 H3 σ3 x3 r3 e3 =>
        ⟨μ3, F3, ρ2, st2, (p1.trans x1.pre).trans x3.pre, (s1.trans x1.sub).trans x3.sub, e3, r3, SPost.from q3 x3⟩
      cases hm : mb ρ1 st' with
      | nx ρ2 st2 =>
        rw [hm] at q2
        exact again q2
      | ct ρ2 st2 =>
        rw [hm] at q2
        exact again q2
      | bk ρ2 st2 =>
        rw [hm] at q2
        exact q2
      | rt w st2 =>
        rw [hm] at q2
        exact q2
      | err c fs ρ2 st2 =>
        rw [hm] at q2
        exact q2
      | bad =>
        rw [hm] at q2
        exact q2
  · rintro σ H ⟨μ', F', ρ', st', p1, s1, re', rs', q⟩
    rw [List.drop_length] at q
    exact snx_here q rs' re'
end

/-! ### comprehensions -/
def dele (H : Hp) (D : Addr) : Hp := fun b => if b = D then none else H b
theorem dele_ne {H : Hp} {D b : Addr} (h : b ≠ D) : dele H D b = H b := if_neg h
theorem dele_same {H : Hp} {D : Addr} : dele H D D = none := if_pos rfl
theorem upd_dele {H : Hp} {D : Addr} {o : HO} : upd (dele H D) D o = upd H D o := by
  funext b
  by_cases h : b = D
  · rw [h, upd_same, upd_same]
  · rw [upd_ne h, upd_ne h, dele_ne h]
abbrev W0 : WX := fun _ _ _ _ => False
section
variable {K : PySem.W.Frag} {μ μ' : List Addr} {F F' H H' : Hp} {st : Sto} {D : Addr} {o : HO}
theorem RSt.beside (r : RSt K μ F H st) (h : H D = none) : RSt K μ F (upd H D o) st :=
  ⟨r.len, r.nd, fun b u q => same_upd h b u (r.sub b u q), fun i a m h1 h2 => (r.ob i a m h1 h2).mono (Pre.refl _) (Same.refl _) (fun q => q) fun u q => same_upd h a u q, fun a ha => by
    rw [upd_ne (fun z => r.notin h (by rw [← z]; exact ha))]
    exact r.there a ha⟩
theorem RSt.without (r : RSt K μ F H st) (hF : F D = none) (hm : D ∉ μ) : RSt K μ F (dele H D) st :=
  ⟨r.len, r.nd, fun b u q => by
    have hb : b ≠ D := fun z => by
      rw [z, hF] at q
      cases q
    rw [dele_ne hb]
    exact r.sub b u q, fun i a m h1 h2 => (r.ob i a m h1 h2).mono (Pre.refl _) (Same.refl _) (fun q => q) fun u q => by
      rw [dele_ne (fun z => hm (by rw [← z]; exact List.mem_of_getElem? h1))]
      exact q, fun a ha => by
    rw [dele_ne (fun z => hm (by rw [← z]; exact ha))]
    exact r.there a ha⟩
theorem xd_without {fs : List (Nat × PV)} {d : Option Addr} {acc : List V} (h : XdR K μ F H fs d) (hD : H D = some (.lst acc)) : XdR K μ F (dele H D) fs d := by
  cases d with
  | none => exact h
  | some a =>
    obtain ⟨gs, h1, h2⟩ := h
    refine ⟨gs, ?_, h2⟩
    rw [dele_ne]
    · exact h1
    · intro z
      rw [z, hD] at h1
      cases h1
/-- the extension beside a foreign object, without it -/
theorem Ext.without (x : Ext μ F (upd H D o) μ' F' H') (h : H D = none) : Ext μ F H μ' F' (dele H' D) where
  pre := x.pre
  sub := x.sub
  keep := fun a u q n => by
    have ha : a ≠ D := fun z => by
      rw [z, h] at q
      cases q
    rw [dele_ne ha]
    exact x.keep a u (by rw [upd_ne ha]; exact q) n
  new := fun a h1 h2 => by
    have := x.new a h1 h2
    by_cases z : a = D
    · rw [z]
      exact h
    · rw [upd_ne z] at this
      exact this
  newF := fun a h1 h2 h3 => x.newF a h1 h2 (by
    have ha : a ≠ D := fun z => h3 (z ▸ h)
    rw [upd_ne ha]
    exact h3)
theorem Ext.foreign (x : Ext μ F (upd H D o) μ' F' H') (r : RSt K μ F H st) (h : H D = none) : H' D = some o ∧ F' D = none ∧ D ∉ μ' := by
  have hm := r.notin h
  have hF := r.freeF h
  have hm' : D ∉ μ' := fun z => by
    have := x.new D z hm
    rw [upd_same] at this
    cases this
  refine ⟨x.keep D o upd_same hm, ?_, hm'⟩
  cases e : F' D with
  | none => rfl
  | some u => exact absurd (x.newF D (by rw [e]; exact fun z => nomatch z) hF (by rw [upd_same]; exact fun z => nomatch z)) hm
theorem wipe_at {σ : L2.St} {i : Nat} : ∀ {vs : List Nat}, i ∉ vs → (wipe σ vs)[i]? = σ[i]?
  | [], _ => rfl
  | v :: vs, h => by
    unfold wipe
    rw [List.getElem?_set_ne (fun z => h (by rw [z]; exact List.mem_cons_self ..)), wipe_at fun z => h (List.mem_cons_of_mem _ z)]
theorem wipeP_len {ρ : Rho} : ∀ {vs : List Nat}, (wipeP ρ vs).length = ρ.length
  | [] => rfl
  | v :: vs => by
    unfold wipeP
    rw [List.length_set, wipeP_len]
theorem wipeP_some {ρ : Rho} {i : Nat} {x : PV} : ∀ {vs : List Nat}, (wipeP ρ vs)[i]? = some (some x) → ρ[i]? = some (some x) ∧ i ∉ vs
  | [], h => ⟨h, by simp⟩
  | v :: vs, h => by
    unfold wipeP at h
    by_cases hi : v = i
    · subst hi
      by_cases hv : v < (wipeP ρ vs).length
      · rw [List.getElem?_set_self hv] at h
        cases h
      · rw [List.getElem?_eq_none (by simpa using hv)] at h
        cases h
    · rw [List.getElem?_set_ne hi] at h
      obtain ⟨h1, h2⟩ := wipeP_some h
      exact ⟨h1, by simp only [List.mem_cons, not_or]; exact ⟨fun e => hi e.symm, h2⟩⟩
theorem REnv.wipe {ρ : Rho} {σ : L2.St} {vs : List Nat} (h : REnv K μ F ρ σ) : REnv K μ F (wipeP ρ vs) (L2.wipe σ vs) := by
  refine ⟨by rw [wipeP_len, wipe_length, h.1], fun i x e => ?_⟩
  obtain ⟨e1, e2⟩ := wipeP_some e
  obtain ⟨v, h1, h2⟩ := h.2 i x e1
  exact ⟨v, by rw [wipe_at e2]; exact h1, h2⟩
theorem wipe_eq {σ τ : L2.St} {vs : List Nat} (hl : σ.length = τ.length) (h : ∀ i, i ∉ vs → σ[i]? = τ[i]?) : L2.wipe σ vs = L2.wipe τ vs := by
  refine List.ext_getElem? fun i => ?_
  by_cases hi : i ∈ vs
  · have key : ∀ (σ : L2.St) (vs : List Nat), i ∈ vs → (L2.wipe σ vs)[i]? = if i < σ.length then some none else none := by
      intro σ vs
      induction vs with
      | nil => intro h; simp at h
      | cons v vs ih =>
        intro h
        unfold L2.wipe
        by_cases hv : v = i
        · subst hv
          by_cases hlt : v < σ.length
          · rw [List.getElem?_set_self (by rw [wipe_length]; exact hlt), if_pos hlt]
          · rw [List.getElem?_eq_none (by rw [List.length_set, wipe_length]; omega), if_neg hlt]
        · rw [List.getElem?_set_ne hv]
          refine ih ?_
          rcases List.mem_cons.mp h with h | h
          · exact absurd h.symm hv
          · exact h
    rw [key σ vs hi, key τ vs hi, hl]
  · rw [wipe_at hi, wipe_at hi, h i hi]
theorem wipe_wipe {σ : L2.St} {vs : List Nat} : L2.wipe (L2.wipe σ vs) vs = L2.wipe σ vs := wipe_eq (wipe_length _ _) fun i hi => wipe_at hi
theorem post_noErr {α β : Type} {R : List Addr → Hp → α → β → Prop} {Wx W' : XK} {Q : β → Hp → Prop} {m : M α} (p : Post K R Wx Q μ F H (noErr m st)) : Post K R W' Q μ F H (m st) := by
  unfold noErr at p
  cases h : m st with
  | ok a st' =>
    rw [h] at p
    exact p
  | err c fs st' =>
    rw [h] at p
    exact p.elim
  | bad =>
    rw [h] at p
    exact p.elim
end
section
variable {X : Cx} {W : WX} {tg iter elt : Expr} {pos : Pos}
theorem pe_compV {mu : Bool} {t : CT} {ifs : List Expr} {scope : Scope} {own : List (Str × Nat)} {mi : Rho → M (List PV)} {tt : Rho → M Bool} {me : Rho → M PV} (hc : X.calm = true) (hN : X.N.Nodup) (hi : PI X tg iter (TIm X.K W mi)) (ok : BlkOk X.N X.env.scope scope own)
    (hsl : ∀ i ∈ slots t, i ∈ own.map (·.2))
    (hg : ∀ (s : Shared) (H : Hp) (C : Addr) (cl : List (Str × Addr)) (fp : List Addr), TgOk (X.blk s H scope (compEnvC scope cl C X.env) fp) tg t)
    (ht : ∀ (s : Shared) (H : Hp) (C : Addr) (cl : List (Str × Addr)) (fp : List Addr), PTs (X.blk s H scope (compEnvC scope cl C X.env) fp) ifs (TTm X.K W0 tt))
    (he : ∀ (s : Shared) (H : Hp) (C : Addr) (cl : List (Str × Addr)) (fp : List Addr), PE (X.blk s H scope (compEnvC scope cl C X.env) fp) elt (TEm X.K W0 me)) (hs : ∀ x, foldedSetIterable iter X.env x = pure x) :
    PE X (.ListComp elt [⟨tg, iter, ifs, 0⟩] scope pos) (TEm X.K W (compM mu t (own.map (·.2)) mi tt me)) := by
  refine PE.imp (pe_lc (te := TEm X.K W0 me) (tt := TTm X.K W0 tt) (g := gT X.K t) hc hN hi ok (fun s H C cl fp => pg_of (X := X.blk s H scope (compEnvC scope cl C X.env) fp) hc hN (hg s H C cl fp)) ht he hs) fun σ H Q h => ?_
  have vs : List Nat := own.map (·.2)
  refine TX.mono (TX.one (R1 := IterR X.K) (f := fun xs ρ => match lineOk xs.length with
    | true => M.bind (noErr (compL t tt me (wipeP ρ (own.map (·.2))) xs)) fun ys => newL mu ys
    | false => M.bad) h) fun J H1 h1 => ?_
  obtain ⟨μ, F, ρ, st, xs, re, rs, ⟨G, Y, wk, hG, hY⟩, p⟩ := h1
  cases hln : lineOk xs.length with
  | false =>
    rw [hln] at p
    exact p.elim
  | true =>
    rw [hln] at p
    have hln' := lineOk_le hln
    intro D hD
    have p1 := Post.bind (R := Ens X.K) p
    have p2 : Post X.K (Ens X.K) (fun _ _ _ => False) (fun zs H' => zs.length ≤ sizeLine ∧ ∀ q, H' q = none → Q (.ref q) (upd H' q (.lst zs))) μ F H1 (compL t tt me (wipeP ρ (own.map (·.2))) xs st) :=
      (post_noErr (W' := fun _ _ _ => False) p1).imp (fun _ _ _ h => h) fun zs H' ⟨μ1, F1, st1, ys, _, r1, e1, q1⟩ => newL_ok r1 e1 q1
    refine lc_it wk (fun i H => ∃ μ' F' st' Hm acc, Pre μ μ' ∧ Same F F' ∧ H = upd Hm D (.lst acc) ∧ Hm D = none ∧ acc.length ≤ i ∧ RSt X.K μ' F' Hm st' ∧
        Post X.K (Ens X.K) (fun _ _ _ => False) (fun zs H' => (acc ++ zs).length ≤ sizeLine ∧ ∀ q, H' q = none → Q (.ref q) (upd H' q (.lst (acc ++ zs)))) μ' F' Hm (compL t tt me (wipeP ρ (own.map (·.2))) (xs.drop i) st'))
      ⟨μ, F, st, H1, [], Pre.refl _, Same.refl _, rfl, hD, Nat.le_refl _, rs, by rw [List.drop_zero]; exact p2⟩ ?_ ?_ ?_
    · rintro i H _ ⟨μ', F', st', Hm, acc, p1, s1, rfl, hm, _, rs', _⟩
      exact hG _ (s1.trans fun b u q => same_upd hm b u (rs'.sub b u q))
    · rintro i v H H' hi ⟨μ', F', st', Hm, acc, p1, s1, rfl, hm, hal, rs', q⟩ y
      have rsD : RSt X.K μ' F' (upd Hm D (.lst acc)) st' := rs'.beside hm
      obtain ⟨F'', x, x1, r1, hx, ex⟩ := hY i _ v H' μ' F' st' hi p1 s1 rsD y
      rw [drop_at hx] at q
      have q1 : Post X.K (Ens X.K) (fun _ _ _ => False) _ μ' F' Hm (match asgP st' t x (wipeP ρ (own.map (·.2))) with
        | none => .bad
        | some ρ2 => M.bind (tt ρ2) (fun b => match b with
          | true => M.bind (me ρ2) fun y => M.bind (compL t tt me (wipeP ρ (own.map (·.2))) (xs.drop (i + 1))) fun ys => M.pure (y :: ys)
          | false => compL t tt me (wipeP ρ (own.map (·.2))) (xs.drop (i + 1))) st') := q
      cases ha : asgP st' t x (wipeP ρ (own.map (·.2))) with
      | none =>
        rw [ha] at q1
        exact q1.elim
      | some ρ2 =>
        rw [ha] at q1
        dsimp only at q1
        have re1 : REnv X.K μ' F'' (wipeP ρ (own.map (·.2))) (L2.wipe σ (own.map (·.2))) := ((re.mono p1 (s1.trans x1.sub))).wipe
        refine g_sound r1 t re1 ex ha fun σ2 re2 w2 => ⟨by rw [w2 _ hsl, wipe_wipe], ?_⟩
        refine ⟨μ', F'', ρ2, st', re2, r1, ?_⟩
        have q2 : Post X.K (Ens X.K) (fun _ _ _ => False) _ μ' F' Hm ((tt ρ2 st').andThen fun b => match b with
          | true => M.bind (me ρ2) fun y => M.bind (compL t tt me (wipeP ρ (own.map (·.2))) (xs.drop (i + 1))) fun ys => M.pure (y :: ys)
          | false => compL t tt me (wipeP ρ (own.map (·.2))) (xs.drop (i + 1))) := q1
        cases hb : tt ρ2 st' with
        | bad =>
          rw [hb] at q2
          exact q2.elim
        | err c fs st1 =>
          rw [hb] at q2
          exact fun μ3 F3 H3 d x3 r3 e3 => q2 μ3 F3 _ d ((x1.trans x3).without hm) (r3.without (Ext.foreign (x1.trans x3) rs' hm).2.1 (Ext.foreign (x1.trans x3) rs' hm).2.2) (xd_without e3 (Ext.foreign (x1.trans x3) rs' hm).1)
        | ok b st1 =>
          rw [hb] at q2
          rintro μ3 F3 H3 b' x3 r3 rfl
          have x13 := x1.trans x3
          cases b with
          | false =>
            rw [if_neg Bool.false_ne_true]
            obtain ⟨f1, f2, f3⟩ := Ext.foreign x13 rs' hm
            refine ⟨μ3, F3, st1, dele H3 D, acc, p1.trans x13.pre, s1.trans x13.sub, ?_, dele_same, Nat.le_succ_of_le hal, r3.without f2 f3, Post.from q2 (x13.without hm)⟩
            funext c
            by_cases hc : c = D
            · rw [hc, upd_same, f1]
            · rw [upd_ne hc, dele_ne hc]
          | true =>
            rw [if_pos rfl]
            refine ⟨μ3, F3, ρ2, st1, re2.mono x3.pre x3.sub, r3, ?_⟩
            have q3 : Post X.K (Ens X.K) (fun _ _ _ => False) _ μ' F' Hm ((me ρ2 st1).andThen fun y => M.bind (compL t tt me (wipeP ρ (own.map (·.2))) (xs.drop (i + 1))) fun ys => M.pure (y :: ys)) := q2
            cases hy : me ρ2 st1 with
            | bad =>
              rw [hy] at q3
              exact q3.elim
            | err c fs st2 =>
              rw [hy] at q3
              exact fun μ4 F4 H4 d x4 r4 e4 => q3 μ4 F4 _ d ((x13.trans x4).without hm) (r4.without (Ext.foreign (x13.trans x4) rs' hm).2.1 (Ext.foreign (x13.trans x4) rs' hm).2.2) (xd_without e4 (Ext.foreign (x13.trans x4) rs' hm).1)
            | ok y st2 =>
              rw [hy] at q3
              rintro μ4 F4 H4 yv x4 r4 ey
              have x14 := x13.trans x4
              obtain ⟨f1, f2, f3⟩ := Ext.foreign x14 rs' hm
              refine ⟨acc, f1, by omega, μ4, F4, st2, dele H4 D, acc ++ [yv], p1.trans x14.pre, s1.trans x14.sub, upd_dele.symm, dele_same, by rw [List.length_append]; simp; omega, r4.without f2 f3, ?_⟩
              have q4 := Post.from q3 (x14.without hm)
              refine (Post.bind (R := Ens X.K) (f := fun ys => M.pure (y :: ys)) q4).imp (fun _ _ _ h => h) fun zs H5 ⟨μ5, F5, st5, ys, x5, r5, e5, q5⟩ => ?_
              have fin := post_here q5 r5 (.cons (ey.mono x5.pre x5.sub) e5)
              rw [List.append_assoc]
              exact fin
    · rintro H ⟨μ', F', st', Hm, acc, p1, s1, rfl, hm, hal, rs', q⟩
      rw [List.drop_length] at q
      have fin := post_here q rs' .nil
      rw [List.append_nil] at fin
      exact fin.2 D hm
end
end L3
/-! L3I: the end of a call, defs and their calls. -/
namespace L3
open PySem PySem.Spec PyProof.Rows L2

section
variable {K : PySem.W.Frag} {μ μ' : List Addr} {F F' : Hp} {f : Nat → Option PV}
mutual
theorem trav_ok (hf : ∀ i w u, f i = some w → En K μ F (.m i) u → En K μ' F' w u) (s : Same F F') : ∀ {v w : PV} {u : V}, trav f v = some w → En K μ F v u → En K μ' F' w u
  | .tup xs, w, u, h, e => by
    unfold trav at h
    obtain ⟨ys, h1, rfl⟩ := Option.map_eq_some_iff.mp h
    cases e with
    | tup hq r => exact .tup (same_sqT s hq) (travs_ok hf s h1 r)
  | .lst xs, w, u, h, e => by
    unfold trav at h
    obtain ⟨ys, h1, rfl⟩ := Option.map_eq_some_iff.mp h
    cases e with
    | lst hq r => exact .lst (s _ _ hq) (travs_ok hf s h1 r)
  | .ro xs, w, u, h, e => by
    unfold trav at h
    obtain ⟨ys, h1, rfl⟩ := Option.map_eq_some_iff.mp h
    cases e with
    | ro hq r => exact .ro (s.seq hq) (travs_ok hf s h1 r)
  | .dct xs, w, u, h, e => by
    unfold trav at h
    obtain ⟨ys, h1, rfl⟩ := Option.map_eq_some_iff.mp h
    cases e with
    | dct hq r => exact .dct (s _ _ hq) (travK_ok hf s h1 r)
  | .ins c fs, w, u, h, e => by
    unfold trav at h
    obtain ⟨ys, h1, rfl⟩ := Option.map_eq_some_iff.mp h
    cases e with
    | ins hq r => exact .ins (s _ _ hq) (travF_ok hf s h1 r)
  | .exc c fs, w, u, h, e => by
    unfold trav at h
    obtain ⟨ys, h1, rfl⟩ := Option.map_eq_some_iff.mp h
    cases e with
    | exc hq hq2 r => exact .exc (s _ _ hq) (s _ _ hq2) (travF_ok hf s h1 r)
    | exc0 hq =>
      unfold travF at h1
      cases h1
      exact .exc0 (s _ _ hq)
  | .m i, w, u, h, e => by
    unfold trav at h
    exact hf i w u h e
  | .non, w, u, h, e => by
    unfold trav at h
    cases h
    cases e
    exact .non
  | .bl b, w, u, h, e => by
    unfold trav at h
    cases h
    cases e
    exact .bl _
  | .int b, w, u, h, e => by
    unfold trav at h
    cases h
    cases e
    exact .int _
  | .str b, w, u, h, e => by
    unfold trav at h
    cases h
    cases e
    exact .str _
  | .fn b, w, u, h, e => by
    unfold trav at h
    cases h
    cases e
    exact .fn _
  | .cls b, w, u, h, e => by
    unfold trav at h
    cases h
    cases e
    exact .cls _
  | .ty b, w, u, h, e => by
    unfold trav at h
    cases h
    cases e
    exact .ty _
theorem travs_ok (hf : ∀ i w u, f i = some w → En K μ F (.m i) u → En K μ' F' w u) (s : Same F F') : ∀ {v w : List PV} {u : List V}, travs f v = some w → Ens K μ F v u → Ens K μ' F' w u
  | [], w, u, h, e => by
    unfold travs at h
    cases h
    cases e
    exact .nil
  | x :: xs, w, u, h, e => by
    unfold travs at h
    cases e with
    | cons e1 er =>
      cases h1 : trav f x with
      | none =>
        rw [h1] at h
        cases h
      | some y =>
        rw [h1] at h
        obtain ⟨ys, h2, rfl⟩ := Option.map_eq_some_iff.mp h
        exact .cons (trav_ok hf s h1 e1) (travs_ok hf s h2 er)
theorem travK_ok (hf : ∀ i w u, f i = some w → En K μ F (.m i) u → En K μ' F' w u) (s : Same F F') : ∀ {v w : List (Key × PV)} {u : List (Key × V)}, travK f v = some w → EnK K μ F v u → EnK K μ' F' w u
  | [], w, u, h, e => by
    unfold travK at h
    cases h
    cases e
    exact .nil
  | (k, x) :: xs, w, u, h, e => by
    unfold travK at h
    cases e with
    | cons e1 er =>
      cases h1 : trav f x with
      | none =>
        rw [h1] at h
        cases h
      | some y =>
        rw [h1] at h
        obtain ⟨ys, h2, rfl⟩ := Option.map_eq_some_iff.mp h
        exact .cons (trav_ok hf s h1 e1) (travK_ok hf s h2 er)
theorem travF_ok (hf : ∀ i w u, f i = some w → En K μ F (.m i) u → En K μ' F' w u) (s : Same F F') : ∀ {v w : List (Nat × PV)} {u : List (Str × V)}, travF f v = some w → EnF K μ F v u → EnF K μ' F' w u
  | [], w, u, h, e => by
    unfold travF at h
    cases h
    cases e
    exact .nil
  | (k, x) :: xs, w, u, h, e => by
    unfold travF at h
    cases e with
    | cons e1 er =>
      cases h1 : trav f x with
      | none =>
        rw [h1] at h
        cases h
      | some y =>
        rw [h1] at h
        obtain ⟨ys, h2, rfl⟩ := Option.map_eq_some_iff.mp h
        exact .cons (trav_ok hf s h1 e1) (travF_ok hf s h2 er)
end
end
theorem travMs_get {f : Nat → Option PV} : ∀ {st st' : Sto}, travMs f st = some st' → st'.length = st.length ∧ ∀ (i : Nat) (mo' : MO), st'[i]? = some mo' → ∃ mo, st[i]? = some mo ∧ travM f mo = some mo'
  | [], st', h => by
    unfold travMs at h
    cases h
    exact ⟨rfl, fun i mo' h => by simp at h⟩
  | x :: xs, st', h => by
    unfold travMs at h
    cases h1 : travM f x with
    | none =>
      rw [h1] at h
      cases h
    | some y =>
      rw [h1] at h
      obtain ⟨ys, h2, rfl⟩ := Option.map_eq_some_iff.mp h
      obtain ⟨l, g⟩ := travMs_get h2
      refine ⟨by rw [List.length_cons, List.length_cons, l], fun i mo' h => ?_⟩
      cases i with
      | zero =>
        simp at h
        subst h
        exact ⟨x, rfl, h1⟩
      | succ i =>
        obtain ⟨mo, a, b⟩ := g i mo' (by simpa using h)
        exact ⟨mo, by simpa using a, b⟩
section
variable {K : PySem.W.Frag} {μ μ' : List Addr} {F F' H H' : Hp} {st st' : Sto}
/-- what is local is frozen, but what stays open -/
def cloF (μ : List Addr) (n0 : Nat) (ex : Addr → Bool) (F H : Hp) : Hp := fun a => if a ∈ μ.drop n0 ∧ ex a = false then H a else F a
variable {ex : Addr → Bool}
theorem cloF_same {n0 : Nat} (r : RSt K μ F H st) : Same F (cloF μ n0 ex F H) := fun a o h => by
  unfold cloF
  split
  · exact r.sub a o h
  · exact h
theorem cloF_sub {n0 : Nat} (r : RSt K μ F H st) : Same (cloF μ n0 ex F H) H := fun a o h => by
  unfold cloF at h
  split at h
  · exact h
  · exact r.sub a o h
theorem drop_mem {n0 i : Nat} {a : Addr} (h : μ[i]? = some a) (hi : n0 ≤ i) : a ∈ μ.drop n0 := by
  have : (μ.drop n0)[i - n0]? = some a := by
    rw [List.getElem?_drop]
    rw [show n0 + (i - n0) = i by omega]
    exact h
  exact List.mem_of_getElem? this
theorem drop_not {n0 i : Nat} {a : Addr} (nd : μ.Nodup) (h : μ[i]? = some a) (hi : i < n0) : a ∉ μ.drop n0 := fun z => by
  obtain ⟨j, hj⟩ := List.mem_iff_getElem?.mp z
  rw [List.getElem?_drop] at hj
  have := nodup_ixA nd h hj
  omega
/-- what stays open is no list, dict, instance of the store -/
def ExOk (μ : List Addr) (n0 : Nat) (ex : Addr → Bool) (st : Sto) : Prop := ∀ (j : Nat) (a : Addr) (mo : MO), n0 ≤ j → μ[j]? = some a → st[j]? = some mo → (∃ v, mo = .frz v) ∨ ex a = false
/-- the things of the store as data for good -/
theorem clo_ok {n0 : Nat} (r : RSt K μ F H st) (hx : ExOk μ n0 ex st) : ∀ (k i : Nat) (w : PV) (u : V), clo n0 st k i = some w → En K μ F (.m i) u → En K (μ.take n0) (cloF μ n0 ex F H) w u := by
  intro k
  have old : ∀ (i : Nat) (u : V), i < n0 → En K μ F (.m i) u → En K (μ.take n0) (cloF μ n0 ex F H) (.m i) u := fun i u hi e => by
    cases e with
    | m h => exact .m (by rw [List.getElem?_take_of_lt hi]; exact h)
  induction k with
  | zero =>
    intro i w u h e
    unfold clo at h
    split at h
    · rename_i hi
      cases h
      exact old i u hi e
    · cases h
  | succ k ih =>
    intro i w u h e
    unfold clo at h
    split at h
    · rename_i hi
      cases h
      exact old i u hi e
    · rename_i hi
      cases hs : st[i]? with
      | none =>
        rw [hs] at h
        cases h
      | some mo =>
        rw [hs] at h
        obtain ⟨a, rfl, hk, ob⟩ := at_m r e hs
        have hd : a ∈ μ.drop n0 := drop_mem hk (by omega)
        have hc : (∃ v, mo = .frz v) ∨ cloF μ n0 ex F H a = H a := by
          rcases hx i a mo (by omega) hk hs with q | q
          · exact .inl q
          · right
            unfold cloF
            rw [if_pos ⟨hd, q⟩]
        cases mo with
        | frz v => exact trav_ok (fun i w u h e => ih i w u h e) (cloF_same r) h ob
        | lst xs =>
          have hc : cloF μ n0 ex F H a = H a := hc.resolve_left fun ⟨v, z⟩ => nomatch z
          obtain ⟨ys, h1, rfl⟩ := Option.map_eq_some_iff.mp h
          obtain ⟨_, vs, h2, h3⟩ := ob
          exact .lst (by rw [hc]; exact h2) (travs_ok (fun i w u h e => ih i w u h e) (cloF_same r) h1 h3)
        | dct xs =>
          have hc : cloF μ n0 ex F H a = H a := hc.resolve_left fun ⟨v, z⟩ => nomatch z
          obtain ⟨ys, h1, rfl⟩ := Option.map_eq_some_iff.mp h
          obtain ⟨_, vs, h2, h3⟩ := ob
          exact .dct (by rw [hc]; exact h2) (travK_ok (fun i w u h e => ih i w u h e) (cloF_same r) h1 h3)
        | ins c fs =>
          have hc : cloF μ n0 ex F H a = H a := hc.resolve_left fun ⟨v, z⟩ => nomatch z
          obtain ⟨ys, h1, rfl⟩ := Option.map_eq_some_iff.mp h
          obtain ⟨_, dx, gs, h2, h3⟩ := ob
          exact .ins (by rw [hc]; exact h2) (travF_ok (fun i w u h e => ih i w u h e) (cloF_same r) h1 h3)
/-- behind a call -/
theorem close_ok {n0 : Nat} (hl : μ.length = n0) (x : Ext μ F H μ' F' H') (r : RSt K μ' F' H' st) (hx : ExOk μ' n0 ex st) (h : closeSt n0 st = some st') :
    RSt K μ (cloF μ' n0 ex F' H') H' st' ∧ Ext μ F H μ (cloF μ' n0 ex F' H') H' ∧ μ'.take n0 = μ := by
  have ht : μ'.take n0 = μ := by
    refine List.ext_getElem? fun i => ?_
    by_cases hi : i < n0
    · rw [List.getElem?_take_of_lt hi]
      have hm : i < μ.length := by omega
      rw [List.getElem?_eq_getElem hm]
      exact x.pre i _ (List.getElem?_eq_getElem hm)
    · rw [List.getElem?_eq_none (by rw [List.length_take]; omega), List.getElem?_eq_none (by omega)]
  have ln : n0 ≤ μ'.length := by
    have := congrArg List.length ht
    rw [List.length_take] at this
    omega
  unfold closeSt at h
  obtain ⟨hlen, hget⟩ := travMs_get h
  refine ⟨⟨?_, ?_, cloF_sub r, fun i a mo' h1 h2 => ?_, fun a ha => ?_⟩, ⟨Pre.refl _, x.sub.trans (cloF_same r), fun a o q n => x.keep a o q n, fun a h1 h2 => absurd h1 h2, fun a h1 h2 h3 => ?_⟩, ht⟩
  · rw [hlen, List.length_take, ← r.len]
    omega
  · rw [← ht]
    exact r.nd.sublist (List.take_sublist _ _)
  · obtain ⟨mo, h3, h4⟩ := hget i mo' h2
    have hi : i < n0 := by
      have := (List.getElem?_eq_some_iff.mp h1).1
      omega
    rw [List.getElem?_take_of_lt hi] at h3
    have h1' : μ'[i]? = some a := x.pre i a h1
    have hno : a ∉ μ'.drop n0 := drop_not r.nd h1' hi
    have hc : cloF μ' n0 ex F' H' a = F' a := by
      unfold cloF
      rw [if_neg fun z => hno z.1]
    have ob := r.ob i a mo h1' h3
    have tr := fun i w u h e => clo_ok (n0 := n0) r hx 8 i w u h e
    rw [ht] at tr
    cases mo with
    | frz v =>
      obtain ⟨w, h5, rfl⟩ := Option.map_eq_some_iff.mp h4
      exact trav_ok tr (cloF_same r) h5 ob
    | lst xs =>
      obtain ⟨w, h5, rfl⟩ := Option.map_eq_some_iff.mp h4
      obtain ⟨g1, vs, g2, g3⟩ := ob
      exact ⟨hc.trans g1, vs, g2, travs_ok tr (cloF_same r) h5 g3⟩
    | dct xs =>
      obtain ⟨w, h5, rfl⟩ := Option.map_eq_some_iff.mp h4
      obtain ⟨g1, vs, g2, g3⟩ := ob
      exact ⟨hc.trans g1, vs, g2, travK_ok tr (cloF_same r) h5 g3⟩
    | ins c fs =>
      obtain ⟨w, h5, rfl⟩ := Option.map_eq_some_iff.mp h4
      obtain ⟨g1, dx, gs, g2, g3⟩ := ob
      exact ⟨hc.trans g1, dx, gs, g2, travF_ok tr (cloF_same r) h5 g3⟩
  · obtain ⟨i, hi⟩ := List.mem_iff_getElem?.mp ha
    exact r.there a (List.mem_of_getElem? (x.pre i a hi))
  · unfold cloF at h1
    split at h1
    · rename_i hm
      by_cases hin : a ∈ μ
      · exact hin
      · exact absurd (x.new a (List.mem_of_mem_drop hm.1) hin) h3
    · exact x.newF a h1 h2 h3
theorem exOk_none {n0 : Nat} : ExOk μ n0 (fun _ => false) st := fun _ _ _ _ _ _ => .inr rfl
/-- the outcome of a body is that of the call -/
theorem fin_post {n0 : Nat} {v : PV} {Wx : XK} {Q : VK} (hl : μ.length = n0) (p : Post K (En K) Wx Q μ F H (finV n0 v st)) :
    ∀ μ' F' H' u, Ext μ F H μ' F' H' → RSt K μ' F' H' st → En K μ' F' v u → Q u H' := fun μ' F' H' u x r e => by
  unfold finV at p
  cases hv : closeV n0 st v with
  | none =>
    rw [hv] at p
    exact p.elim
  | some v' =>
    rw [hv] at p
    cases hs : closeSt n0 st with
    | none =>
      rw [hs] at p
      exact p.elim
    | some st' =>
      rw [hs] at p
      obtain ⟨r1, x1, ht⟩ := close_ok hl x r exOk_none hs
      have tr := fun i w u h e => clo_ok (n0 := n0) r exOk_none 8 i w u h e
      rw [ht] at tr
      exact p μ _ H' u x1 r1 (trav_ok tr (cloF_same r) hv e)
/-- .. where the returned thing stays open -/
theorem open_ok {n0 i : Nat} {a : Addr} {mo : MO} (hl : μ.length = n0) (x : Ext μ F H μ' F' H') (r : RSt K μ' F' H' st) (hi : n0 ≤ i) (ha : μ'[i]? = some a) (hmo : st[i]? = some mo) (hno : F' a = none)
    (h : closeSt n0 (st.set i (.frz (.m i))) = some st') : ∃ F'', (∀ {mo' : MO}, ObR K (μ ++ [a]) F'' H' a mo' → RSt K (μ ++ [a]) F'' H' (st' ++ [mo'])) ∧ Ext μ F H (μ ++ [a]) F'' H' ∧ F'' a = none ∧ Same F' F'' ∧
      ∀ (j : Nat) (w : PV) (u : V), clo n0 (st.set i (.frz (.m i))) 8 j = some w → En K μ' F' (.m j) u → En K (μ ++ [a]) F'' w u := by
  have hlt : i < st.length := (List.getElem?_eq_some_iff.mp hmo).1
  have r' : RSt K μ' F' H' (st.set i (.frz (.m i))) := by
    refine ⟨by rw [List.length_set]; exact r.len, r.nd, r.sub, fun j b o h1 h2 => ?_, r.there⟩
    by_cases hj : i = j
    · subst hj
      rw [List.getElem?_set_self hlt] at h2
      cases h2
      exact En.m h1
    · rw [List.getElem?_set_ne hj] at h2
      exact r.ob j b o h1 h2
  have hx : ExOk μ' n0 (fun b => decide (b = a)) (st.set i (.frz (.m i))) := fun j b o hj h1 h2 => by
    by_cases hj : i = j
    · subst hj
      rw [List.getElem?_set_self hlt] at h2
      cases h2
      exact .inl ⟨_, rfl⟩
    · right
      refine decide_eq_false fun z => hj ?_
      subst z
      exact nodup_ixA r.nd ha h1
  obtain ⟨r1, x1, ht⟩ := close_ok hl x r' hx h
  have na : a ∉ μ := fun z => by
    obtain ⟨j, hj⟩ := List.mem_iff_getElem?.mp z
    have h1 := x.pre j a hj
    have h2 := nodup_ixA r.nd ha h1
    have h3 := (List.getElem?_eq_some_iff.mp hj).1
    omega
  have fa : cloF μ' n0 (fun b => decide (b = a)) F' H' a = none := by
    unfold cloF
    rw [if_neg (by simp)]
    exact hno
  have pa : Pre μ (μ ++ [a]) := pre_app μ [a]
  refine ⟨cloF μ' n0 (fun b => decide (b = a)) F' H', fun {mo'} ob => ⟨by rw [List.length_append, List.length_append, r1.len]; rfl, ?_, r1.sub, fun j b o h1 h2 => ?_, fun b hb => ?_⟩, ⟨pa, x1.sub, x1.keep, fun b h1 h2 => ?_, fun b h1 h2 h3 => ?_⟩, fa, cloF_same r', fun j w u h1 h2 => ?_⟩
  · rw [List.nodup_append]
    exact ⟨r1.nd, by simp, fun y hy z hz e => na (by rw [List.mem_singleton.mp hz] at e; exact e ▸ hy)⟩
  · by_cases hj : j < μ.length
    · rw [List.getElem?_append_left hj] at h1
      rw [List.getElem?_append_left (by rw [← r1.len]; exact hj)] at h2
      exact (r1.ob j b o h1 h2).mono pa (Same.refl _) (fun q => q) fun u q => q
    · rw [List.getElem?_append_right (by omega)] at h1
      rw [List.getElem?_append_right (by rw [← r1.len]; omega)] at h2
      have hz : j - μ.length = 0 := by
        have := (List.getElem?_eq_some_iff.mp h1).1
        simp at this
        omega
      rw [hz] at h1
      rw [← r1.len, hz] at h2
      simp at h1 h2
      subst h1 h2
      exact ob
  · rcases List.mem_append.mp hb with hb | hb
    · exact r1.there b hb
    · rw [List.mem_singleton.mp hb]
      exact r.there a (List.mem_of_getElem? ha)
  · rcases List.mem_append.mp h1 with hb | hb
    · exact absurd hb h2
    · rw [List.mem_singleton.mp hb]
      exact x.new a (List.mem_of_getElem? ha) na
  · exact x1.newF b h1 h2 h3
  · have q := clo_ok (n0 := n0) r' hx 8 j w u h1 h2
    rw [ht] at q
    exact q.mono pa (Same.refl _)
theorem fin_postK {n0 : Nat} {v : PV} {Wx : XK} {Q : VK} (hl : μ.length = n0) (p : Post K (En K) Wx Q μ F H (finK n0 v st)) :
    ∀ μ' F' H' u, Ext μ F H μ' F' H' → RSt K μ' F' H' st → En K μ' F' v u → Q u H' := fun μ' F' H' u x r e => by
  cases e with
  | @m i a hm =>
    unfold finK at p
    dsimp only at p
    cases hd : decide (n0 ≤ i) with
    | false =>
      rw [hd] at p
      exact p.elim
    | true =>
      rw [hd] at p
      have hi : n0 ≤ i := of_decide_eq_true hd
      cases hs : st[i]? with
      | none =>
        rw [hs] at p
        exact p.elim
      | some mo =>
        rw [hs] at p
        have ob := r.ob i a mo hm hs
        have lst : ∀ (st' : Sto), (μ ++ [a])[n0]? = some a := fun _ => by
          rw [List.getElem?_append_right (by omega), hl, Nat.sub_self]
          rfl
        cases mo with
        | frz w => exact p.elim
        | lst xs =>
          dsimp only at p
          obtain ⟨hno, vs, h1, h2⟩ := ob
          cases ht : travs (clo n0 (st.set i (.frz (.m i))) 8) xs with
          | none =>
            rw [ht] at p
            exact p.elim
          | some xs' =>
            cases hc : closeSt n0 (st.set i (.frz (.m i))) with
            | none =>
              rw [ht, hc] at p
              exact p.elim
            | some st' =>
              rw [ht, hc] at p
              obtain ⟨F'', r2, x2, fa, sm, tr⟩ := open_ok hl x r hi hm hs hno hc
              exact p _ F'' H' _ x2 (r2 ⟨fa, vs, h1, travs_ok tr sm ht h2⟩) (.m (lst st'))
        | dct xs =>
          dsimp only at p
          obtain ⟨hno, vs, h1, h2⟩ := ob
          cases ht : travK (clo n0 (st.set i (.frz (.m i))) 8) xs with
          | none =>
            rw [ht] at p
            exact p.elim
          | some xs' =>
            cases hc : closeSt n0 (st.set i (.frz (.m i))) with
            | none =>
              rw [ht, hc] at p
              exact p.elim
            | some st' =>
              rw [ht, hc] at p
              obtain ⟨F'', r2, x2, fa, sm, tr⟩ := open_ok hl x r hi hm hs hno hc
              exact p _ F'' H' _ x2 (r2 ⟨fa, vs, h1, travK_ok tr sm ht h2⟩) (.m (lst st'))
        | ins c xs =>
          dsimp only at p
          obtain ⟨hno, dx, vs, h1, h2⟩ := ob
          cases ht : travF (clo n0 (st.set i (.frz (.m i))) 8) xs with
          | none =>
            rw [ht] at p
            exact p.elim
          | some xs' =>
            cases hc : closeSt n0 (st.set i (.frz (.m i))) with
            | none =>
              rw [ht, hc] at p
              exact p.elim
            | some st' =>
              rw [ht, hc] at p
              obtain ⟨F'', r2, x2, fa, sm, tr⟩ := open_ok hl x r hi hm hs hno hc
              exact p _ F'' H' _ x2 (r2 ⟨fa, dx, vs, h1, travF_ok tr sm ht h2⟩) (.m (lst st'))
  | _ => exact p.elim
theorem fin_err {n0 c : Nat} {fs : List (Nat × PV)} {Wx : XK} {Q : VK} (hl : μ.length = n0) (p : Post K (En K) Wx Q μ F H (finE n0 c fs st)) :
    ∀ μ' F' H' d, Ext μ F H μ' F' H' → RSt K μ' F' H' st → XdR K μ' F' H' fs d → Wx (.ref (He.ga K (nm c))) d H' := fun μ' F' H' d x r e => by
  unfold finE at p
  cases hv : travF (clo n0 st 8) fs with
  | none =>
    rw [hv] at p
    exact p.elim
  | some v' =>
    rw [hv] at p
    cases hs : closeSt n0 st with
    | none =>
      rw [hs] at p
      exact p.elim
    | some st' =>
      rw [hs] at p
      obtain ⟨r1, x1, ht⟩ := close_ok hl x r exOk_none hs
      have tr := fun i w u h e => clo_ok (n0 := n0) r exOk_none 8 i w u h e
      rw [ht] at tr
      refine p μ _ H' d x1 r1 ?_
      cases d with
      | none =>
        have e' : fs = [] := e
        subst e'
        unfold travF at hv
        cases hv
        rfl
      | some a =>
        obtain ⟨gs, h1, h2⟩ := e
        exact ⟨gs, h1, travF_ok tr (cloF_same r) hv h2⟩
end
/-! ### defs -/
/-- a def's promise, where no guard stands around -/
structure FnG (P : Program) (w : World) (K : PySem.W.Frag) (mg : Str → Option Value) (base : Heap) (k : Nat) (f : Addr) (fd : FuncData) (ps : List Str) (sp : Sp) : Prop where
  len : ∀ vs H Q E, sp vs H Q E → vs.length = ps.length
  run : ∀ (A : Around) (outer : List PySem.Env) (s : Shared) (H : Hp) (args : Args) (us : List Value) (vs : List V) (Q : VK) (E : XK), Room k A → A.guards = some [] → Env0 P w K mg base A outer s H → BindsTo s fd args (ps.zip us) → Vals vs us → sp vs H Q E →
    codeAny (model P w) A (.call (.ref f) args) (CR (L2.CX P w) outer P w H s Q E) s
/-- what the evaluator makes of a call, as a promise -/
def spOf (K : PySem.W.Frag) (m : List PV → M PV) : Sp := fun vs H Q E => ∃ μ F st args, RSt K μ F H st ∧ Ens K μ F args vs ∧ Post K (En K) E Q μ F H (m args st)
/-- THE RULE: a def of the text, by its body -/
theorem fn_ofG {P : Program} {w : World} {K : PySem.W.Frag} {mg : Str → Option Value} {base : Heap} {k : Nat} {f : Addr} {name qual : Str} {params : Arguments} {body : List Stmt} {scope : Scope} {dV kV doc pm cdv ct oc : Value} {an od : Option Addr}
    {osl : Array (Option Value)} {N ps : List Str} {sp : Sp} (lk : K.lookup f = some ⟨oc, od, .func (PySem.W.fnOf name qual params body scope dV kV doc pm an cdv ct), osl⟩) (hcd : PySem.W.codeIn K cdv qual = true) (S : FnScope N ps scope)
    (len : ∀ vs H Q E, sp vs H Q E → vs.length = ps.length)
    (hbody : ∀ (A : Around) (outer : List PySem.Env) (s : Shared) (H : Hp) (vs : List V) (Q : VK) (E : XK), Room k (A.deeper (envOfC qual scope s.heap.objs.size f cdv)) → (A.deeper (envOfC qual scope s.heap.objs.size f cdv)).guards = some [] → sp vs H Q E →
      ∃ t, PSs (cxOf (L2.CX P w) P w K mg base N qual scope f cdv A outer s H E) body t ∧ t { nx := fun _ H' => Q .non H', rt := Q } (start N vs) H) :
    FnG P w K mg base (k + 1) f (PySem.W.fnOf name qual params body scope dV kV doc pm an cdv ct) ps sp := by
  refine ⟨len, fun A outer s H args us vs Q E hr hg e0 hb r hsp => ?_⟩
  have hl := len _ _ _ _ hsp
  have KX : K.In s.heap := e0.mod.kin.keeps fun b o e => (e0.bs b o e).1
  have lim : s.heap.NoLimit := e0.mod.nolimit.keeps fun b o e => (e0.bs b o e).1
  have hkind : ∀ y ∈ ps.zip us, scope.names.lookup y.1 = some .local ∨ (scope.names.lookup y.1 = some .cell ∧ ((cellsFrom (s.heap.objs.size + 1) scope.names []).lookup y.1).isSome = true) := fun ⟨n, v⟩ hy => by
    rcases S.par n (List.of_mem_zip hy).1 with q | q
    · exact .inl q
    · exact .inr ⟨q, PySem.W.cellsFrom_some _ _ _ (.inl q)⟩
  refine codeAny_call_function hr.depth (KX _ _ lk) rfl S.co S.gen rfl (PySem.W.codeRec_of KX hcd) (hb _ _ _ _ ?_)
  refine wpAny_newFunctionEnv_cells S.kind hkind fun env he s1 x => ?_
  subst he
  refine ⟨lim.keeps x.toInCall.keep, codeAny_func ?_⟩
  obtain ⟨t, ht, hq⟩ := hbody A outer s H vs Q E (hr.deeper _) hg hsp
  have I : Inv (cxOf (L2.CX P w) P w K mg base N qual scope f cdv A outer s H E) [] (start N vs) H s1 := inv_start S hr.hd e0 hl r x
  refine wpAny_mono (ht.run [] s1 (start N vs) H _ I hq) (fun fl s' hs => ?_) fun e s' hs => hs
  have fin : ∀ {σ' : L2.St} {H' : Hp} {v : V} {u : Value}, Inv (cxOf (L2.CX P w) P w K mg base N qual scope f cdv A outer s H E) [] σ' H' s' → RelV v u → Q v H' → L2.CE outer P w H s Q u s' :=
    fun {σ' H' v u} J rv q => ⟨v, H', J.os, J.bare, J.base, J.hok, rv, q⟩
  cases fl with
  | ret u =>
    obtain ⟨v, σ', H', J, rv, q⟩ := hs
    exact fin J rv q
  | next =>
    obtain ⟨σ', H', J, q⟩ := hs
    exact fin (v := V.non) (u := Value.none) J rfl q
  | brk =>
    obtain ⟨_, _, _, q⟩ := hs
    exact False.elim q
  | cont =>
    obtain ⟨_, _, _, q⟩ := hs
    exact False.elim q
theorem renv_start {K : PySem.W.Frag} {μ : List Addr} {F : Hp} {N : List Str} {args : List PV} {vs : List V} (e : Ens K μ F args vs) : REnv K μ F (args.map some ++ List.replicate (N.length - args.length) none) (start N vs) := by
  unfold L2.start
  refine ⟨by simp [e.length], fun i x h => ?_⟩
  by_cases hi : i < args.length
  · rw [List.getElem?_append_left (by simpa using hi), List.getElem?_map] at h
    cases ha : args[i]? with
    | none =>
      rw [ha] at h
      cases h
    | some y =>
      rw [ha] at h
      cases h
      obtain ⟨v, h1, h2⟩ := e.get ha
      refine ⟨v, ?_, h2⟩
      rw [List.getElem?_append_left (by rw [List.length_map, ← e.length]; exact hi), List.getElem?_map, h1]
      rfl
  · rw [List.getElem?_append_right (by simpa using hi), List.getElem?_replicate] at h
    split at h <;> cases h
/-- a body that the evaluator runs: what its reading asks -/
theorem body_reads {K : PySem.W.Frag} {N : List Str} {np : Nat} {kp : Bool} {body : SM} {vs : List V} {H : Hp} {Q : VK} {E : XK} (h : spOf K (runBody kp np N.length body) vs H Q E) :
    TSm K (fun c d _ H => E c d H) body { nx := fun _ H' => Q .non H', rt := Q } (start N vs) H := by
  obtain ⟨μ, F, st, args, r, e, p⟩ := h
  refine ⟨μ, F, _, st, renv_start e, r, ?_⟩
  unfold runBody at p
  cases hd : decide (args.length = np) with
  | false =>
    rw [hd] at p
    exact p.elim
  | true =>
  rw [hd] at p
  dsimp only at p
  cases hb : body (args.map some ++ List.replicate (N.length - args.length) none) st with
  | nx ρ st' =>
    rw [hb] at p
    exact fun μ' F' H' σ' x r' _ => fin_post r.len p μ' F' H' .non x r' .non
  | rt v st' =>
    rw [hb] at p
    cases kp with
    | true => exact fun μ' F' H' u x r' e' => fin_postK r.len p μ' F' H' u x r' e'
    | false => exact fun μ' F' H' u x r' e' => fin_post r.len p μ' F' H' u x r' e'
  | err c fs ρ st' =>
    rw [hb] at p
    exact fun μ' F' H' d σ' x r' _ e' => fin_err r.len p μ' F' H' d x r' e'
  | bk ρ st' =>
    rw [hb] at p
    exact p.elim
  | ct ρ st' =>
    rw [hb] at p
    exact p.elim
  | bad =>
    rw [hb] at p
    exact p.elim
theorem body_len {K : PySem.W.Frag} {ns np : Nat} {kp : Bool} {body : SM} {vs : List V} {H : Hp} {Q : VK} {E : XK} (h : spOf K (runBody kp np ns body) vs H Q E) : vs.length = np := by
  obtain ⟨μ, F, st, args, r, e, p⟩ := h
  unfold runBody at p
  cases hd : decide (args.length = np) with
  | false =>
    rw [hd] at p
    exact p.elim
  | true => rw [← e.length]; exact of_decide_eq_true hd
/-! ### calls -/
section
variable {X : Cx} {W : WX} {k np : Nat} {f : Addr} {fd : FuncData} {ps : List Str} {m : List PV → M PV} {x : Str} {p pos : Pos} {e : Expr} {es : List Expr}
theorem run_fnG {sp : Sp} {σ : L2.St} {ds : List Value} {dvs : List V} {pins : List (Addr × Obj)} {H : Hp} {s : Shared} {Q : VK} {us : List Value} {vs : List V} {E : XK} (F : FnG X.prog X.w X.K X.mg X.base k f fd ps sp) (hr : Room k X.A) (hgd : X.A.guards = some []) (hb : Binds X.K fd ps ds) (hd : Vals dvs ds)
    (hx : PassesAt (L2.CX X.prog X.w) X σ E) (I : Inv X pins σ H s) (r : Vals vs us) (h : sp (vs ++ dvs) H Q E) : wpAny (model X.prog X.w) X.A (PySem.call (.ref f) us) (EP X pins σ Q) X.xe s := by
  have r2 : Vals (vs ++ dvs) (us ++ ds) := r.append hd
  have hl : (us ++ ds).length = ps.length := by rw [← r2.length]; exact F.len _ _ _ _ h
  refine wpAny_call (codeAny_mono (F.run X.A X.stack s H ⟨us, []⟩ (us ++ ds) (vs ++ dvs) Q E hr hgd I.env0 (hb s us I.kIn hl) r2 h) fun r s' hq => ?_)
  cases r with
  | error e => exact hx pins H s e s' I hq
  | ok fl =>
    cases fl with
    | ret u => exact I.after hq
    | next => exact False.elim hq
    | brk => exact False.elim hq
    | cont => exact False.elim hq
theorem pe_callG {ds : List Value} {dvs : List V} {dps : List PV} {mr : Rho → M (List PV)} (tk : Takes X W) (F : FnG X.prog X.w X.K X.mg X.base k f fd ps (spOf X.K m)) (hr : Room k X.A) (hgd : X.A.guards = some []) (hg : Gl X x) (hm : X.mg x = some (.ref f)) (hk : PySem.W.keepIn X.K (.ref f) = true) (hb : Binds X.K fd ps ds) (hd : Vals dvs ds)
    (hdp : ∀ μ F, Ens X.K μ F dps dvs) (ha : PA X (e :: es) (TAm X.K W mr)) (hdb : (x == ("__debug__" : Str)) = false) (he : starEach (e :: es) X.env = (false, eval e X.env) :: starEach es X.env) (hpl : (backTo pos (starEach es X.env)).any (·.1) = false) : PE X (.Call (.Name x p) (e :: es) [] pos) (TEm X.K W fun ρ => M.bind (mr ρ) fun vs => m (vs ++ dps)) := by
  refine ⟨fun pins s σ H Q I h => ?_⟩
  refine wpAny_Call_Name_kw (ld_glob I hg hm ?_ hdb)
  refine PySem.W.callWith_K (h₀ := X.base) I.ok.mod.kin hk (thn (ha.run pos pins s σ H _ I (TX.one (R1 := Ens X.K) (f := fun vs _ => m (vs ++ dps)) h)) fun us s1 ⟨vs, H1, I1, r, q⟩ => ⟨I1.kIn, ?_⟩) he hpl
  obtain ⟨μ, F1, ρ, st, args, re, rs, ea, q⟩ := q
  refine run_fnG F hr hgd hb hd (passAt tk σ) I1 r ⟨μ, F1, st, args ++ dps, rs, ea.append (hdp _ _), q⟩
end
end L3
/-! L3J: dict displays, exceptions as values, isinstance. -/
namespace PySem.W
open PySem PySem.Spec PySem.Calls PyProof.Rows
section
variable {prog : Program} {w : World} {A : Around} {E : Value → Shared → Prop} {s : Shared} {K : Frag} {x D : Addr} {ox : Obj} {od : Option Obj}
theorem findObj_dataM {C : Addr} {name : Str} {a g : Value} (hc : (clsIn K C).isSome = true) (ha : findIn K (.ref C) name = some (some a)) (hg : specialIn K a "__get__" = some (some g)) (ht : takesIn K a = some true) : findObj K C od name = some (.bind g a) := by
  obtain ⟨cd, hc⟩ := Option.isSome_iff_exists.mp hc
  unfold findObj
  rw [hc, Option.bind_some, ha, Option.bind_some]
  simp [hg, ht]
theorem kin_classM {Q : Option Value → Shared → Prop} (hga : findIn K (.ref D) "__getattribute__" = some (some (.builtin "BaseException.__getattribute__"))) (hgt : findIn K (.ref D) "__getattr__" = some none) (hsub : subIn K (.ref D) (.type "BaseException") = some true)
    (hdct : hasDictIn K D = true) (ha : findIn K (.ref D) "__class__" = some (some (.builtin "object.__class__")))
    (hn : specialIn K (.builtin "object.__class__") "__get__" = some (some (.builtin "getset_descriptor.__get__"))) (htk : takesIn K (.builtin "object.__class__") = some true) (hm : mroIn K D (.type "object") = some true)
    (X : K.In s.heap) (I : InstAt s.heap x ox D od) (h : Q (some (.ref D)) { s with toks := s.toks + 1 }) : wpAny (model prog w) A (getAttr? (.ref x) "__class__") Q E s := by
  have hf : findObj K D od "__class__" = some (.bind (.builtin "getset_descriptor.__get__") (.builtin "object.__class__")) := findObj_dataM (by obtain ⟨cd, hc, _⟩ := any_some hdct; rw [hc]; rfl) ha hn htk
  obtain ⟨hp, g, d, t, os⟩ := s
  have L0 := I.type (M := model prog w)
  have L1 := looks_findIn (M := model prog w) X hga
  have L2 := looks_findIn (M := model prog w) X hgt
  have L3 := looks_find (M := model prog w) X I hf
  have sub : Looks (model prog w) hp (isInstance (.ref x) (.type "BaseException")) true := L0.andThen (looks_subIn X hsub)
  have hx0 : (false && onTheHeap (Value.builtin "BaseException.__getattribute__")) = false := rfl
  have hx2 : (Value.builtin "BaseException.__getattribute__" == Value.builtin "object.__getattribute__") = false := by decide +kernel
  have hx1 : (onTheHeap (Value.ref D) && Value.builtin "BaseException.__getattribute__" == Value.builtin "object.__getattribute__") = false := by rw [hx2]; rfl
  unfold getAttr? getAttrBy? getAttrBy
  refine wpAny_bind (wpAny_mkText (wpAny_bind (wpAny_attempt (wpAny_holding (wpAny_bind (L0.at (wpAny_bind (L1.at ?_))))))))
  show wpAny _ _ (if (onTheHeap (Value.ref D) && Value.builtin "BaseException.__getattribute__" == Value.builtin "object.__getattribute__") = true then _ else _) _ _ _
  rw [hx1, if_neg Bool.false_ne_true]
  unfold getAttrByItsOwn hookBefore
  refine wpAny_bind ?_
  rw [if_pos (show onTheHeap (Value.ref D) = true from rfl)]
  refine L2.at ?_
  refine wpAny_bind (wpAny_attempt (wpAny_holding ?_))
  unfold callGetattribute
  rw [hx0, if_neg Bool.false_ne_true]
  unfold boundAndCalled
  rw [PySem.F.excAttr_ValueError.ga.bind (.ref x)]
  refine wpAny_bind (wpAny_pure ?_)
  show wpAny _ _ (call (.builtin "BaseException.__getattribute__") [.ref x, .str "__class__" t]) _ _ _
  refine wpAny_call (codeAny_call_builtin PySem.F.excAttr_ValueError.ga.plain PySem.F.entry_bexc_ga ?_)
  refine @check_slot (model prog w) _ _ ⟨hp, g, d, t + 1, os⟩ "BaseException.__getattribute__" "BaseException" "__getattribute__" (.ref x) [.str "__class__" t] [] _ (by decide +kernel) (by decide +kernel) sub (PySem.F.args_bexc_ga (.ref x) (.str "__class__" t)) ?_
  unfold Builtin.«object.__getattribute__»
  refine wpAny_bind (wpAny_of_eq (a := ((Value.ref x : Value), [Value.str "__class__" t])) (by first | rfl | (simp only [slotArgs]; rfl)) ?_)
  refine wpAny_bind (wpAny_pure (wpAny_bind (L0.at (wpAny_bind (L3.at ?_)))))
  show wpAny _ _ (holding [Value.builtin "object.__class__"] (call (.builtin "getset_descriptor.__get__") [.builtin "object.__class__", .ref x, .ref D]) >>= ret) _ _ _
  refine wpAny_bind (wpAny_holding (wpAny_call (class_get (s := ⟨hp, g, d, t + 1, os⟩) (ox := ox) (od := od) X I hm ?_)))
  refine wpAny_pure ?_
  show wpAny _ _ (handedOut (.ref D)) _ _ _
  rw [handedOut_of (v := .ref D) rfl]
  first
    | exact wpAny_pure (wpAny_pure h)
    | exact wpAny_pure h
    | exact wpAny_pure (wpAny_bind (wpAny_pure (wpAny_pure h)))
theorem kitx_excM (hga : findIn K (.ref D) "__getattribute__" = some (some (.builtin "BaseException.__getattribute__"))) (hgt : findIn K (.ref D) "__getattr__" = some none) (hsub : subIn K (.ref D) (.type "BaseException") = some true) (hdct : hasDictIn K D = true) (ha : findIn K (.ref D) "__class__" = some (some (.builtin "object.__class__")))
    (hn : specialIn K (.builtin "object.__class__") "__get__" = some (some (.builtin "getset_descriptor.__get__"))) (htk : takesIn K (.builtin "object.__class__") = some true) (hm : mroIn K D (.type "object") = some true) :
    KitX K (.ref x) (.ref D) (fun h => InstAt h x ox D od) where
  ty := fun _ _ _ I => I.type
  it := fun _ _ X _ => by
    obtain ⟨cdD, hcD, _⟩ := any_some hdct
    unfold clsIn at hcD
    split at hcD
    · rename_i c' d' cd' sl' ho
      intro A' Q' E' s' k q
      unfold isType loadHead
      exact wpAny_bind (wpAny_loadPart (k _ _ (X _ _ ho)) (wpAny_pure q))
    · cases hcD
  ne := fun h tp dd its n sl X htp => by
    obtain ⟨cdD, hcD, _⟩ := any_some hdct
    refine Bool.eq_false_iff.mpr fun q => ?_
    have e : D = tp := Value.ref.inj (beq_iff_eq.mp q)
    subst e
    unfold clsIn at hcD
    split at hcD
    · rename_i c' d' cd' sl' ho
      have z := (X _ _ ho).symm.trans htp
      cases z
    · cases hcD
  ca := fun X I k => kin_classM hga hgt hsub hdct ha hn htk hm X I k
end
end PySem.W
namespace L3
open PySem PySem.Spec PyProof.Rows L2

/-! ### a dict display with texts as keys -/
section
variable {X : Cx} {W : WX} {pos : Pos}
structure PDs (X : Cx) (W : WX) (pos : Pos) (keys : List (Option Expr)) (values : List Expr) (ks : List Key) (mr : Rho → M (List PV)) : Prop where
  run : ∀ (pins : List (Addr × Obj)) (s : Shared) (σ : L2.St) (H : Hp) (Q : List V → Hp → Prop), Inv X pins σ H s → TAm X.K W mr σ H Q →
    wpAny (model X.prog X.w) X.A (evalPairs (pairTrees keys values X.env pos)) (fun vs s' => ∃ ys H', Inv X pins σ H' s' ∧ VV ((ks.zip ys).map fun kv => (kV kv.1, kv.2)) vs ∧ ks.length = ys.length ∧ Q ys H') X.xe s
theorem pd_nil : PDs X W pos [] [] [] fun _ => M.pure [] := ⟨fun pins s σ H Q I h => pairTrees_nil_walk ⟨[], H, I, .nil, rfl, by
  obtain ⟨μ, F, ρ, st, re, rs, p⟩ := h
  exact post_here p rs .nil⟩⟩
theorem pd_cons {k v : Expr} {kk : Str} {ks : List (Option Expr)} {vs : List Expr} {kks : List Key} {mv : Rho → M PV} {mr : Rho → M (List PV)} (hk : PE X k (tC (.str kk))) (hv : PE X v (TEm X.K W mv)) (hr : PDs X W pos ks vs kks mr) :
    PDs X W pos (some k :: ks) (v :: vs) (Sum.inr kk :: kks) fun ρ => consA (mv ρ) (mr ρ) := ⟨fun pins s σ H Q I h =>
  pairTrees_cons_walk (thn (hk.run pins s σ H (fun x H1 => x = .str kk ∧ H1 = H) I (show V.str kk = V.str kk ∧ H = H from And.intro rfl rfl)) fun u s1 ⟨x, H1, I1, rx, e1, e2⟩ => by
    subst e1 e2
    refine thn (hv.run pins s1 σ _ _ I1 (TX.two (R1 := En X.K) (R2 := Ens X.K) mono_en (f := fun v vs _ => M.pure (v :: vs)) h)) fun w2 s2 ⟨y, H2, I2, ry, q2⟩ =>
      thn (hr.run pins s2 σ H2 _ I2 q2) fun ws s3 ⟨ps, H3, I3, rel, hl, q3⟩ => ⟨y :: ps, H3, I3, .cons ⟨rx, ry⟩ rel, by rw [List.length_cons, List.length_cons, hl], ?_⟩
    obtain ⟨μ, F, ρ, st, v, w, _, rs, ev, ew, p⟩ := q3
    exact post_here p rs (.cons ev ew))⟩
def dispP (ks : List Key) (vs : List PV) : List (Key × PV) := ks.zip vs
theorem mergeK_nodup : ∀ (l : List (Key × V)) (acc : List (Key × V)), (acc ++ l).map (·.1) |>.Nodup → mergeK acc l = acc ++ l
  | [], acc, _ => by
    rw [List.append_nil]
    rfl
  | (k, v) :: r, acc, h => by
    have hk : (acc.any fun kv => decide (kv.1 = k)) = false := by
      rw [List.any_eq_false]
      intro x hx
      simp only [decide_eq_true_eq]
      intro e
      rw [List.map_append, List.nodup_append] at h
      exact h.2.2 x.1 (List.mem_map_of_mem hx) k (by simp) e
    have e1 : putK acc k v = acc ++ [(k, v)] := by
      unfold putK
      rw [hk]
      rfl
    show mergeK (putK acc k v) r = _
    rw [e1, mergeK_nodup r (acc ++ [(k, v)]) (by rw [List.append_assoc]; exact h), List.append_assoc]
    rfl
theorem enK_zip {K : PySem.W.Frag} {μ : List Addr} {F : Hp} : ∀ {ks : List Key} {vs : List PV} {ys : List V}, Ens K μ F vs ys → EnK K μ F (ks.zip vs) (ks.zip ys)
  | [], _, _, _ => .nil
  | _ :: _, _, _, .nil => .nil
  | _ :: _, _, _, .cons h r => .cons h (enK_zip r)
theorem zip_keys : ∀ {ks : List Key} {ys : List V}, ks.length = ys.length → (ks.zip ys).map (·.1) = ks
  | [], _, _ => rfl
  | k :: ks, [], h => by simp at h
  | k :: ks, y :: ys, h => by
    show k :: (ks.zip ys).map (·.1) = k :: ks
    rw [zip_keys (by simpa using h)]
theorem Ext.fresh {μ : List Addr} {F H : Hp} {a : Addr} {o : HO} (h : H a = none) : Ext μ F H μ F (upd H a o) :=
  ⟨Pre.refl _, fun _ _ h => h, fun b u q _ => by rw [upd_ne (fun z => by rw [z, h] at q; cases q)]; exact q, fun b h1 h2 => absurd h1 h2, fun b h1 h2 => absurd h2 h1⟩
def eDct (mu : Bool) (ks : List Key) (mr : Rho → M (List PV)) (ρ : Rho) : M PV := M.bind (mr ρ) fun vs => newD mu (dispP ks vs)
theorem newD_ok {K : PySem.W.Frag} {μ : List Addr} {F H : Hp} {mu : Bool} {xs : List (Key × PV)} {ys : List (Key × V)} {st : Sto} {Wx : XK} {Q : VK} {a : Addr} (r : RSt K μ F H st) (e : EnK K μ F xs ys) (hn : H a = none)
    (p : Post K (En K) Wx Q μ F H (newD mu xs st)) : xs.length ≤ 15 ∧ Q (.ref a) (upd H a (.dK ys)) := by
  unfold newD at p
  cases h : Nat.ble xs.length 15 with
  | false =>
    rw [h] at p
    exact p.elim
  | true =>
    rw [h] at p
    refine ⟨Nat.le_of_ble_eq_true h, ?_⟩
    cases mu with
    | false =>
      obtain ⟨r1, x1⟩ := lay_frz (o := .dK ys) r hn
      exact p _ _ _ _ x1 r1 (.dct upd_same (e.mono x1.pre x1.sub))
    | true =>
      have hp := pre_app μ [a]
      obtain ⟨r1, x1⟩ := lay_sto (o := .dK ys) (mo := .dct xs) r hn ⟨r.freeF hn, ys, upd_same, e.mono hp fun _ _ h => h⟩
      refine p _ _ _ _ x1 r1 (.m ?_)
      rw [List.getElem?_append_right (by rw [r.len]; exact Nat.le_refl _), r.len]
      simp
theorem pe_dctV {mu : Bool} {keys : List (Option Expr)} {values : List Expr} {ks : List Key} {mr : Rho → M (List PV)} (h : PDs X W pos keys values ks mr) (hall : keys.all (·.isSome) = true) (hl : keys.length = values.length) (h0 : keys ≠ []) (h15 : keys.length ≤ 15) (hks : ks.Nodup) :
    PE X (.Dict keys values pos) (TEm X.K W (eDct mu ks mr)) := by
  refine ⟨fun pins s σ H Q I q => ?_⟩
  have hn := I.hok.fresh (Nat.le_refl s.heap.objs.size)
  have I1 := I.laid (a := s.heap.objs.size) (o := .dK []) (h' := s.heap.push { cls := .type "dict", data := .dict #[] }) (t' := s.toks) (fun _ _ q => Heap.get?_push_of_some _ q) (Nat.le_refl _) (dk_empty s.heap I.big)
  obtain ⟨μ, F, ρ, st, re, rs, p⟩ := q
  have q1 : TAm X.K W mr σ (upd H s.heap.objs.size (.dK [])) (fun ys H2 => H2 s.heap.objs.size = some (.dK []) ∧ (ks.length = ys.length → (ks.zip ys).length ≤ 15 ∧ Q (.ref s.heap.objs.size) (upd H2 s.heap.objs.size (.dK (ks.zip ys))))) := by
    refine ⟨μ, F, ρ, st, re, rs.beside hn, ?_⟩
    have p' : Post X.K (En X.K) (fun c d H => W c d σ H) Q μ F H ((mr ρ st).andThen fun vs => newD mu (dispP ks vs)) := p
    cases hm : mr ρ st with
    | bad =>
      rw [hm] at p'
      exact p'.elim
    | err c fs st1 =>
      rw [hm] at p'
      exact fun μ' F' H' d x r e => p' μ' F' H' d ((Ext.fresh hn).trans x) r e
    | ok vs st1 =>
      rw [hm] at p'
      intro μ1 F1 H2 ys x r1 e
      obtain ⟨f1, f2, f3⟩ := Ext.foreign x rs hn
      refine ⟨f1, fun hlen => ?_⟩
      have p2 : Post X.K (En X.K) (fun c d H => W c d σ H) Q μ1 F1 (dele H2 s.heap.objs.size) (newD mu (dispP ks vs) st1) := Post.from (r := newD mu (dispP ks vs) st1) p' (x.without hn)
      obtain ⟨h1, h2⟩ := newD_ok (a := s.heap.objs.size) (r1.without f2 f3) (enK_zip e) dele_same p2
      rw [upd_dele] at h2
      refine ⟨?_, h2⟩
      have : (dispP ks vs).length = (ks.zip ys).length := by
        unfold dispP
        rw [List.length_zip, List.length_zip, e.length]
      rw [← this]
      exact h1
  refine wpAny_Dict_walk (knd := mixKind X.prog X.w) hall hl h0 h15 (thn (h.run pins _ σ _ _ I1 q1) fun ws s2 ⟨ys, H2, I2, rel, hlen, e, q2⟩ => ?_)
  obtain ⟨hk15, q3⟩ := q2 hlen
  obtain ⟨rs, c, rk⟩ := carries_of (P := X.prog) (w := X.w) rel
  obtain ⟨z, hd, vs0, r0, dd⟩ := dk_of I2.hok e
  cases r0
  have hmg : mergeK [] (ks.zip ys) = ks.zip ys := mergeK_nodup (ks.zip ys) [] (by rw [List.nil_append, zip_keys hlen]; exact hks)
  refine ⟨rs, c, dd, fun h' dd' hs => ⟨.ref s.heap.objs.size, _, ?_, rfl, q3⟩⟩
  have hz : (mergeK [] (ks.zip ys)).length ≤ sizeLine := by
    rw [hmg, sizeLine_eq]; omega
  have he : ∃ q, h'.get? s.heap.objs.size = some q := let ⟨q, _, _, hq, _⟩ := dd'; ⟨q, hq⟩
  rw [← hmg]
  exact d_write I2 (by rw [e]; exact True.intro) hs he (dk_new hz hd (rk.merge .nil) dd')
end
end L3
/-! L3K: exceptions made as values. -/
namespace L3
open PySem PySem.Spec PyProof.Rows L2

/-! ### __init__ of an error -/
/-- what the base's name says -/
structure XBase (K : PySem.W.Frag) (C0 : Addr) : Prop where
  rd : ClX.CRead K C0 (.type "type")
  at_ : PySem.W.findCls K (.ref C0) (.type "type") "__init__" = some (.val (.builtin "ValueError.__init__"))
section
variable {X : Cx} {e o : Expr} {es : List Expr} {ta : TA} {p1 p2 pos : Pos} {x0 : Str} {C0 : Addr}
theorem pe_ownInit {pl : Sem Bool} (hg : Gl X x0) (hm : X.mg x0 = some (.ref C0)) (B : XBase X.K C0) (ha : PA X (e :: es) ta) (hdb : (x0 == ("__debug__" : Str)) = false)
    (hc : eval (.Call (.Attribute (.Name x0 p1) "__init__" p2) (e :: es) [] pos) X.env = (do
      let ov ← eval (.Name x0 p1) X.env
      standAt p2.atName
      let (f, first) ← holding [ov] (getMethod ov "__init__" pl)
      callWith pos f first (backTo pos (starEach (e :: es) X.env)) (backToKw pos (keywordEach [] X.env))) := by rfl)
    (he : starEach (e :: es) X.env = (false, eval e X.env) :: starEach es X.env := by rfl) (hpl : (backTo pos (starEach es X.env)).any (·.1) = false := by rfl) :
    PE X (.Call (.Attribute (.Name x0 p1) "__init__" p2) (e :: es) [] pos) (tVeI X.K ta) := by
  refine ⟨fun pins s σ H Q I h => ?_⟩
  refine PySem.W.methodCall_KW (ld_glob I hg hm ?_ hdb) hc
  refine PySem.W.method_cls I.kIn B.rd.ga (PySem.W.cls_value I.kIn B.rd.rd B.at_ (by decide +kernel) ?_)
  show wpAny _ _ (callWith pos (Value.builtin "ValueError.__init__") [] (backTo pos (starEach (e :: es) X.env)) []) _ _ _
  refine PyProof.Rows.callWith_method1 (thn (ha.run pos pins _ σ H _ (I.tok _) h) fun us s1 ⟨vs, H1, I1, r1, a, C, ws, ev, hl, T, ea, q⟩ => ?_) he hpl
  subst ev
  cases r1 with
  | @cons _ u0 _ ur ra rw' =>
    obtain rfl : u0 = Value.ref a := ra
    have hlen : ur.length ≤ sizeLine := by
      rw [← Paired.length rw', sizeLine_eq]
      omega
    exact oinit_ok T I1 ea hlen fun s' J => ⟨.non, H1, J, rfl, q⟩
end
/-- what __init__ of the class at C does: fs, the fields in the order of the parameters -/
def spX (K : PySem.W.Frag) (C : Addr) : List Str → Sp
  | [] => fun vs H Q _ => ∃ a, vs = [.ref a] ∧ OexC K C ∧ H a = some (exo a C none) ∧ Q .non H
  | [f] => fun vs H Q _ => ∃ a y, vs = [.ref a, y] ∧ OexC K C ∧ PySem.W.findIn K (.ref C) f = some none ∧ H a = some (exo a C none) ∧ ∀ d, H d = none → d ≠ a → Q .non (upd (upd H d (exd d [(f, y)])) a (exo a C (some d)))
  | [f, g] => fun vs H Q _ => ∃ a y z, vs = [.ref a, y, z] ∧ OexC K C ∧ PySem.W.findIn K (.ref C) f = some none ∧ PySem.W.findIn K (.ref C) g = some none ∧ H a = some (exo a C none) ∧ ∀ d, H d = none → d ≠ a → Q .non (upd (upd H d (exd d [(g, z), (f, y)])) a (exo a C (some d)))
  | _ => fun _ _ _ _ => False
def tX0 (K : PySem.W.Frag) (m : Str) : TS := tDrop (tVeI K (tCons (tVar 0) (tCons (tC (.str m)) tNil)))
def tX1 (K : PySem.W.Frag) (m f : Str) : TS := tSeq (tX0 K m) (tOst K f (tVar 0) (tVar 1))
def tX2 (K : PySem.W.Frag) (m f g : Str) : TS := tSeq (tX0 K m) (tSeq (tOst K f (tVar 0) (tVar 1)) (tOst K g (tVar 0) (tVar 2)))
theorem x0_pure {K : PySem.W.Frag} {C : Addr} {m : Str} {p : Str} {vs : List V} {H : Hp} {Q : VK} {E : XK} (h : spX K C [] vs H Q E) : tX0 K m { nx := fun _ H' => Q .non H', rt := Q } (L2.start [p] vs) H := by
  obtain ⟨a, rfl, T, ea, q⟩ := h
  exact ⟨_, rfl, a, C, _, rfl, by simp, T, ea, q⟩
theorem x1_pure {K : PySem.W.Frag} {C : Addr} {m : Str} {f p1 p2 : Str} {vs : List V} {H : Hp} {Q : VK} {E : XK} (h : spX K C [f] vs H Q E) : tX1 K m f { nx := fun _ H' => Q .non H', rt := Q } (L2.start [p1, p2] vs) H := by
  obtain ⟨a, y, rfl, T, n, ea, q⟩ := h
  refine ⟨_, rfl, a, C, _, rfl, by simp, T, ea, ?_⟩
  exact ⟨_, rfl, _, rfl, a, C, rfl, T, n, .inl ⟨ea, fun dx h1 h2 => q dx h1 h2⟩⟩
theorem upd_three {H : Hp} {a d : Addr} {o1 o2 o3 : HO} (h : d ≠ a) : upd (upd (upd H d o1) a o2) d o3 = upd (upd H d o3) a o2 := by
  funext b
  by_cases h1 : b = d
  · rw [h1, upd_same, upd_ne h, upd_same]
  · rw [upd_ne h1]
    by_cases h2 : b = a
    · rw [h2, upd_same, upd_same]
    · rw [upd_ne h2, upd_ne h1, upd_ne h2, upd_ne h1]
theorem x2_pure {K : PySem.W.Frag} {C : Addr} {m : Str} {f g p1 p2 p3 : Str} {vs : List V} {H : Hp} {Q : VK} {E : XK} (h : spX K C [f, g] vs H Q E) : tX2 K m f g { nx := fun _ H' => Q .non H', rt := Q } (L2.start [p1, p2, p3] vs) H := by
  obtain ⟨a, y, z, rfl, T, n, n2, ea, q⟩ := h
  refine ⟨_, rfl, a, C, _, rfl, by simp, T, ea, ?_⟩
  refine ⟨_, rfl, _, rfl, a, C, rfl, T, n, .inl ⟨ea, fun dx h1 h2 => ?_⟩⟩
  refine ⟨_, rfl, _, rfl, a, C, rfl, T, n2, .inr ⟨dx, [(f, y)], upd_same, ?_, by simp, ?_⟩⟩
  · rw [upd_ne h2, upd_same]
  · rw [upd_three h2]
    exact q dx h1 h2
theorem spX_len {K : PySem.W.Frag} {C : Addr} : ∀ {fs : List Str} {vs : List V} {H : Hp} {Q : VK} {E : XK}, spX K C fs vs H Q E → vs.length = fs.length + 1
  | [], _, _, _, _, ⟨_, e, _⟩ => by rw [e]; rfl
  | [_], _, _, _, _, ⟨_, _, e, _⟩ => by rw [e]; rfl
  | [_, _], _, _, _, _, ⟨_, _, _, e, _⟩ => by rw [e]; rfl
  | _ :: _ :: _ :: _, _, _, _, _, h => h.elim

/-! ### an error made -/
def mkX (c : Nat) (fs : List Nat) (vs : List PV) : M PV := match decide (vs.length = fs.length) with
  | true => M.pure (.exc c (fs.zip vs).reverse)
  | false => M.bad
/-- all of it -/
structure XCls (K : PySem.W.Frag) (C fI : Addr) : Prop where
  T : OexC K C
  iC : PySem.W.findIn K (.ref C) "__init__" = some (some (.ref fI))
  tI : PySem.W.typeIn K (.ref fI) = some (.type "function")
theorem mkX_ok {K : PySem.W.Frag} {μ : List Addr} {F H : Hp} {st : Sto} {c : Nat} {a : Addr} {fs : List Nat} {vs : List PV} {ys : List V} {Wx : XK} {Q : VK} (T : OexC K (He.ga K (nm c))) (hn : ∀ f ∈ fs, PySem.W.findIn K (.ref (He.ga K (nm c))) (nm f) = some none)
    (r : RSt K μ F H st) (e : Ens K μ F vs ys) (ha : H a = none) (h2 : fs.length ≤ 2) (p : Post K (En K) Wx Q μ F H (mkX c fs vs st)) :
    spX K (He.ga K (nm c)) (fs.map nm) (.ref a :: ys) (upd H a (exo a (He.ga K (nm c)) none)) (fun v H2 => v = .non ∧ Q (.ref a) H2) fun _ _ _ => False := by
  unfold mkX at p
  cases hl : decide (vs.length = fs.length) with
  | false =>
    rw [hl] at p
    exact p.elim
  | true =>
    rw [hl] at p
    have hl' := of_decide_eq_true hl
    have fin : ∀ (d : Addr) (gs : List (Str × V)), upd H a (exo a (He.ga K (nm c)) none) d = none → d ≠ a → EnF K μ F ((fs.zip vs).reverse) gs → Q (.ref a) (upd (upd (upd H a (exo a (He.ga K (nm c)) none)) d (exd d gs)) a (exo a (He.ga K (nm c)) (some d))) := by
      intro d gs hd hda eg
      rw [upd_ne hda] at hd
      obtain ⟨r1, x1⟩ := lay_frz (o := exd d gs) r hd
      obtain ⟨r2, x2⟩ := lay_frz (o := exo a (He.ga K (nm c)) (some d)) (p := a) r1 (by rw [upd_ne (Ne.symm hda)]; exact ha)
      have eq : upd (upd (upd H a (exo a (He.ga K (nm c)) none)) d (exd d gs)) a (exo a (He.ga K (nm c)) (some d)) = upd (upd H d (exd d gs)) a (exo a (He.ga K (nm c)) (some d)) := by
        funext b
        by_cases h1 : b = a
        · rw [h1, upd_same, upd_same]
        · rw [upd_ne h1, upd_ne h1]
          by_cases h2 : b = d
          · rw [h2, upd_same, upd_same]
          · rw [upd_ne h2, upd_ne h2, upd_ne h1]
      rw [eq]
      exact p _ _ _ _ (x1.trans x2) r2 (.exc upd_same (by rw [upd_ne hda]; exact upd_same) (eg.mono (x1.trans x2).pre (x1.trans x2).sub))
    match fs, vs, e, hl', hn, h2, fin, p with
    | [], [], .nil, _, _, _, fin, p =>
      refine ⟨a, rfl, T, upd_same, rfl, ?_⟩
      obtain ⟨r1, x1⟩ := lay_frz (o := exo a (He.ga K (nm c)) none) r ha
      exact p _ _ _ _ x1 r1 (.exc0 upd_same)
    | [f], [v], .cons e1 .nil, _, hn, _, fin, p =>
      exact ⟨a, _, rfl, T, hn f (by simp), upd_same, fun d h1 h2 => ⟨rfl, fin d _ h1 h2 (.cons e1 .nil)⟩⟩
    | [f, g], [v, w], .cons e1 (.cons e2 .nil), _, hn, _, fin, p =>
      exact ⟨a, _, _, rfl, T, hn f (by simp), hn g (by simp), upd_same, fun d h1 h2 => ⟨rfl, fin d _ h1 h2 (.cons e2 (.cons e1 .nil))⟩⟩
    | _ :: _ :: _ :: _, _, _, _, _, h2, _, _ =>
      simp at h2
theorem takes0 {X : Cx} : Takes X W0 := fun u s' ⟨_, _, _, _, _, _, _, _, _, _, _, _, _, _, _, _, w⟩ => w.elim
section
variable {X : Cx} {W : WX} {k : Nat} {fI : Addr} {fd : FuncData} {ps : List Str} {x : Str} {p pos : Pos} {e : Expr} {es : List Expr} {c : Nat} {fs : List Nat}
theorem run_mkX {pins : List (Addr × Obj)} {σ : L2.St} {H1 : Hp} {s : Shared} {Q : VK} {us : List Value} {vs : List V} (Y : XCls X.K (He.ga X.K (nm c)) fI) (F1 : FnG X.prog X.w X.K X.mg X.base k fI fd ps (spX X.K (He.ga X.K (nm c)) (fs.map nm))) (hr : Room (k + 1) X.A) (hgd : X.A.guards = some []) (hb : Binds X.K fd ps [])
    (I1 : Inv X pins σ H1 s) (r1 : Vals vs us) (hq : ∀ a, H1 a = none → spX X.K (He.ga X.K (nm c)) (fs.map nm) (.ref a :: vs) (upd H1 a (exo a (He.ga X.K (nm c)) none)) (fun v H2 => v = .non ∧ Q (.ref a) H2) fun _ _ _ => False) :
    wpAny (model X.prog X.w) X.A (call (.ref (He.ga X.K (nm c))) us) (EP X pins σ Q) X.xe s := by
  obtain ⟨nm', q, N, bs, bm, sn, sub, ab, col, dd, k0, k1, k2, k3, k5, hC, hbm⟩ := Y.T.cls
  obtain ⟨hp, g, dr, tk, os⟩ := s
  have hsz : hp.objs.size ≤ hp.objs.size + 1 := Nat.le_succ _
  have hn : H1 (hp.objs.size + 1) = none := I1.hok.fresh hsz
  have hq := hq (hp.objs.size + 1) hn
  have kk : ∀ b o, hp.get? b = some o → ((hp.push (PySem.W.kdv_tup us)).push (PySem.HandSPX.excO (He.ga X.K (nm c)) hp.objs.size)).get? b = some o := fun b o e => Heap.get?_push_of_some _ (Heap.get?_push_of_some _ e)
  have hget : ((hp.push (PySem.W.kdv_tup us)).push (PySem.HandSPX.excO (He.ga X.K (nm c)) hp.objs.size)).get? (hp.objs.size + 1) = some (PySem.HandSPX.excO (He.ga X.K (nm c)) hp.objs.size) := by heap_get
  have I2 : Inv X pins σ (upd H1 (hp.objs.size + 1) (exo (hp.objs.size + 1) (He.ga X.K (nm c)) none)) ⟨(hp.push (PySem.W.kdv_tup us)).push (PySem.HandSPX.excO (He.ga X.K (nm c)) hp.objs.size), g, dr, tk, os⟩ :=
    I1.laid (t' := tk) (a := hp.objs.size + 1) (o := exo (hp.objs.size + 1) (He.ga X.K (nm c)) none) (h' := (hp.push (PySem.W.kdv_tup us)).push (PySem.HandSPX.excO (He.ga X.K (nm c)) hp.objs.size)) kk hsz (exo_ok hget)
  have r2 : Vals (V.ref (hp.objs.size + 1) :: vs) (Value.ref (hp.objs.size + 1) :: us) := .cons rfl r1
  have hl : (Value.ref (hp.objs.size + 1) :: us).length = ps.length := by
    have e := r2.length
    rw [F1.len _ _ _ _ hq] at e
    exact e.symm
  have hus : us.length ≤ sizeLine := by
    have h1 := spX_len hq
    have h2 := r2.length
    have h3 : (fs.map nm).length ≤ 2 := by
      match hm : fs.map nm with
      | [] => decide
      | [_] => simp
      | [_, _] => simp
      | _ :: _ :: _ :: _ =>
        rw [hm] at hq
        exact hq.elim
    rw [h1] at h2
    rw [List.length_cons] at h2
    rw [sizeLine_eq]
    omega
  refine wpAny_call (PySem.HandSPX.call_own F.excBase_ValueError (fun Y => PySem.HandSPX.refsVE_contains Y bm hbm) (I1.kIn _ _ hC) (PySem.W.looks_findIn I1.kIn Y.iC) (fun self => PySem.W.bind_fn I1.kIn self Y.tI) hus
    (codeAny_mono (F1.run _ X.stack _ _ ⟨Value.ref (hp.objs.size + 1) :: us, []⟩ (Value.ref (hp.objs.size + 1) :: us) _ _ (fun _ _ _ => False) (hr.make (He.ga X.K (nm c)) us []) hgd (I2.env0.make (He.ga X.K (nm c)) us [])
      (by have := hb _ (Value.ref (hp.objs.size + 1) :: us) I2.kIn (by rw [List.append_nil]; exact hl); rw [List.append_nil] at this; exact this) r2 hq) fun r s' hq' => ?_))
  cases r with
  | error er => exact passAt (takes0 (X := X)) σ pins _ _ er s' I2 hq'
  | ok fl =>
    cases fl with
    | ret u =>
      obtain ⟨v, H', I3, rv, ev, q3⟩ := I2.after hq'
      subst ev
      exact ⟨rv, ⟨V.ref (hp.objs.size + 1), H', I3, rfl, q3⟩⟩
    | next => exact False.elim hq'
    | brk => exact False.elim hq'
    | cont => exact False.elim hq'
theorem pe_mkX {mr : Rho → M (List PV)} (Y : XCls X.K (He.ga X.K (nm c)) fI) (hno : ∀ f ∈ fs, PySem.W.findIn X.K (.ref (He.ga X.K (nm c))) (nm f) = some none) (h2 : fs.length ≤ 2) (F1 : FnG X.prog X.w X.K X.mg X.base k fI fd ps (spX X.K (He.ga X.K (nm c)) (fs.map nm))) (hr : Room (k + 1) X.A) (hgd : X.A.guards = some [])
    (hb : Binds X.K fd ps []) (hg : Gl X x) (hm : X.mg x = some (.ref (He.ga X.K (nm c)))) (ha : PA X (e :: es) (TAm X.K W mr)) (hdb : (x == ("__debug__" : Str)) = false) (he : starEach (e :: es) X.env = (false, eval e X.env) :: starEach es X.env)
    (hpl : (backTo pos (starEach es X.env)).any (·.1) = false) : PE X (.Call (.Name x p) (e :: es) [] pos) (TEm X.K W fun ρ => M.bind (mr ρ) (mkX c fs)) := by
  refine ⟨fun pins s σ H Q I h => ?_⟩
  refine wpAny_Call_Name_kw (ld_glob I hg hm ?_ hdb)
  refine PySem.W.callWith_K (h₀ := X.base) I.ok.mod.kin Y.T.kC (thn (ha.run pos pins s σ H _ I (TX.one (R1 := Ens X.K) (f := fun vs _ => mkX c fs vs) h)) fun us s1 ⟨vs, H1, I1, r, q⟩ => ⟨I1.kIn, ?_⟩) he hpl
  obtain ⟨μ, F1', ρ, st, args, re, rs, ea, q⟩ := q
  exact run_mkX Y F1 hr hgd hb I1 r fun a ha => mkX_ok Y.T hno rs ea ha h2 q
theorem pe_mkX0 (Y : XCls X.K (He.ga X.K (nm c)) fI) (F1 : FnG X.prog X.w X.K X.mg X.base k fI fd ps (spX X.K (He.ga X.K (nm c)) [])) (hr : Room (k + 1) X.A) (hgd : X.A.guards = some [])
    (hb : Binds X.K fd ps []) (hg : Gl X x) (hm : X.mg x = some (.ref (He.ga X.K (nm c)))) (hdb : (x == ("__debug__" : Str)) = false) : PE X (.Call (.Name x p) [] [] pos) (TEm X.K W fun _ => mkX c [] []) := by
  refine ⟨fun pins s σ H Q I h => ?_⟩
  obtain ⟨μ, F1', ρ, st, re, rs, q⟩ := h
  refine wpAny_Call_Name_kw (ld_glob I hg hm ?_ hdb)
  exact PySem.W.callWith_K0 I.kIn Y.T.kC (run_mkX (us := []) (vs := []) (fs := []) Y F1 hr hgd hb I .nil fun a ha => mkX_ok Y.T (fun f hf => nomatch hf) rs .nil ha (by decide) q)
end
end L3
/-! L3L: attributes read, isinstance, repr, classes as values. -/
namespace L3
open PySem PySem.Spec PyProof.Rows L2

/-! ### attributes -/
/-- e.f, e an error of a class of cx or an instance of a class of ci -/
def lookP (f : Nat) (fs : List (Nat × PV)) : Option PV := (fs.find? fun p => decide (p.1 = f)).map (·.2)
def attrV (f : Nat) (ci cx : List Nat) (v : PV) : M PV := fun st => match v with
  | .exc c fs => (match decide (c ∈ cx), lookP f fs with
    | true, some x => .ok (normV st x) st
    | _, _ => .bad)
  | v => (match insV st v with
    | some (c, fs) => (match decide (c ∈ ci), lookP f fs with
      | true, some x => .ok (normV st x) st
      | _, _ => .bad)
    | none => .bad)
structure InsF (K : PySem.W.Frag) (f c : Nat) : Prop where
  cls : Cls K (He.ga K (nm c))
  no : NoAttr K (He.ga K (nm c)) (nm f)
structure ExcF (K : PySem.W.Frag) (f c : Nat) : Prop where
  xf : XfC K (He.ga K (nm c))
  no : PySem.W.findIn K (.ref (He.ga K (nm c))) (nm f) = some none
section
variable {K : PySem.W.Frag} {μ : List Addr} {F H : Hp} {st : Sto}
theorem enF_look {f : Nat} : ∀ {fs : List (Nat × PV)} {gs : List (Str × V)} {x : PV}, EnF K μ F fs gs → lookP f fs = some x → ∃ v, gs.lookup (nm f) = some v ∧ En K μ F x v
  | [], _, _, _, h => by
    unfold lookP at h
    cases h
  | (g, y) :: fs, _, x, .cons e r, h => by
    unfold lookP at h
    rw [List.find?_cons] at h
    by_cases hg : g = f
    · subst hg
      have : x = y := by simpa using h.symm
      subst this
      exact ⟨_, by simp [List.lookup], e⟩
    · have h' : lookP f fs = some x := by
        unfold lookP
        simpa [hg] using h
      obtain ⟨v, h1, h2⟩ := enF_look r h'
      refine ⟨v, ?_, h2⟩
      have hne : (nm f == nm g) = false := by
        rw [beq_eq_false_iff_ne]
        exact fun z => hg (nm_inj z).symm
      simp [List.lookup, hne, h1]
theorem ins_ok {v : PV} {x : V} {c : Nat} {fs : List (Nat × PV)} (r : RSt K μ F H st) (e : En K μ F v x) (h : insV st v = some (c, fs)) : ∃ a dx gs, x = .ref a ∧ H a = some (.ins (He.ga K (nm c)) dx gs) ∧ EnF K μ F fs gs := by
  cases v with
  | ins c' fs' =>
    unfold insV at h
    cases h
    cases e with
    | ins q r' => exact ⟨_, _, _, rfl, r.sub _ _ q, r'⟩
  | m i =>
    unfold insV at h
    dsimp only at h
    cases hs : st[i]? with
    | none =>
      rw [hs] at h
      cases h
    | some mo =>
      rw [hs] at h
      obtain ⟨a, rfl, ob⟩ := r.at_ e hs
      cases mo with
      | ins c' fs' =>
        cases h
        obtain ⟨_, dx, gs, h1, h2⟩ := ob
        exact ⟨a, dx, gs, rfl, h1, h2⟩
      | frz w =>
        cases w with
        | ins c' fs' =>
          cases h
          have ob' : En K μ F (.ins c fs) (.ref a) := ob
          cases ob' with
          | ins q r' => exact ⟨_, _, _, rfl, r.sub _ _ q, r'⟩
        | _ => cases h
      | _ => cases h
  | _ => cases h
/-- the reading of an attribute, at a value -/
def rAttr (K : PySem.W.Frag) (n : Str) (x : V) (H : Hp) (Q : VK) : Prop :=
  (∃ a C dx fs v, x = .ref a ∧ H a = some (.ins C dx fs) ∧ Cls K C ∧ NoAttr K C n ∧ fs.lookup n = some v ∧ Q v H) ∨
  ∃ a C d fs v, x = .ref a ∧ H a = some (exo a C (some d)) ∧ H d = some (exd d fs) ∧ XfC K C ∧ PySem.W.findIn K (.ref C) n = some none ∧ fs.lookup n = some v ∧ Q v H
theorem attr_sound {f : Nat} {ci cx : List Nat} {v : PV} {x : V} {Wx : XK} {Q : VK} (hi : ∀ c ∈ ci, InsF K f c) (hx : ∀ c ∈ cx, ExcF K f c) (r : RSt K μ F H st) (e : En K μ F v x) (p : Post K (En K) Wx Q μ F H (attrV f ci cx v st)) : rAttr K (nm f) x H Q := by
  have plain : ∀ (p : Post K (En K) Wx Q μ F H (match insV st v with
      | some (c, fs) => (match decide (c ∈ ci), lookP f fs with
        | true, some x => .ok (normV st x) st
        | _, _ => .bad)
      | none => .bad)), rAttr K (nm f) x H Q := fun p => by
    cases h : insV st v with
    | none =>
      rw [h] at p
      exact p.elim
    | some q =>
      obtain ⟨c, fs⟩ := q
      rw [h] at p
      obtain ⟨a, dx, gs, rfl, h1, h2⟩ := ins_ok r e h
      dsimp only at p
      cases hc : decide (c ∈ ci) with
      | false =>
        rw [hc] at p
        exact p.elim
      | true =>
        rw [hc] at p
        cases hl : lookP f fs with
        | none =>
          rw [hl] at p
          exact p.elim
        | some y =>
          rw [hl] at p
          obtain ⟨u, h3, h4⟩ := enF_look h2 hl
          have T := hi c (of_decide_eq_true hc)
          exact .inl ⟨a, _, dx, gs, u, rfl, h1, T.cls, T.no, h3, post_here p r (norm_ok r h4)⟩
  cases v with
  | exc c fs =>
    have p' : Post K (En K) Wx Q μ F H (match decide (c ∈ cx), lookP f fs with
      | true, some x => .ok (normV st x) st
      | _, _ => .bad) := p
    cases hc : decide (c ∈ cx) with
    | false =>
      rw [hc] at p'
      exact p'.elim
    | true =>
      rw [hc] at p'
      cases hl : lookP f fs with
      | none =>
        rw [hl] at p'
        exact p'.elim
      | some y =>
        rw [hl] at p'
        cases e with
        | exc q1 q2 h2 =>
          obtain ⟨u, h3, h4⟩ := enF_look h2 hl
          have T := hx c (of_decide_eq_true hc)
          exact .inr ⟨_, _, _, _, u, rfl, r.sub _ _ q1, r.sub _ _ q2, T.xf, T.no, h3, post_here p' r (norm_ok r h4)⟩
        | exc0 _ => cases hl
  | _ => exact plain p
end
section
variable {X : Cx} {W : WX} {pos : Pos}
theorem pe_attrV {f : Nat} {n : Str} {ci cx : List Nat} {e : Expr} {m : Rho → M PV} (hn : nm f = n) (hi : ∀ c ∈ ci, InsF X.K f c) (hx : ∀ c ∈ cx, ExcF X.K f c) (he : PE X e (TEm X.K W m)) (hb : attributeBase e n X.env (eval e X.env) = eval e X.env) :
    PE X (.Attribute e n pos) (TEm X.K W fun ρ => M.bind (m ρ) (attrV f ci cx)) := by
  subst hn
  refine ⟨fun pins s σ H Q I h => ?_⟩
  refine attr_of hb (thn (he.run pins s σ H _ I (TX.one (R1 := En X.K) (f := fun v _ => attrV f ci cx v) h)) fun u s1 hh => ?_)
  obtain ⟨x, H1, I1, rx, μ, F, ρ, st, v, re, rs, ev, p⟩ := hh
  rcases attr_sound hi hx rs ev p with ⟨a, C, dx, fs, v, rfl, ea, c, n, l, q⟩ | ⟨a, C, d, fs, v, rfl, ea, ed, T, n, l, q⟩
  · obtain rfl : u = Value.ref a := rx
    exact getattr_ok I1 ea c n l fun u' s2 I2 ru => ⟨v, H1, I2, ru, q⟩
  · obtain rfl : u = Value.ref a := rx
    obtain ⟨t1, ho⟩ := exo_at I1.hok ea
    obtain ⟨mA, hns, hr⟩ := exd_at I1.hok ed
    obtain ⟨od, hod, hl⟩ := lookIn_ns hns
    obtain ⟨u, hu, ru⟩ := RelO.some_of (v := v) (o := mA (nm f)) (by rw [← l]; exact hr (nm f))
    have J : PySem.W.InstAt s1.heap a _ C (some od) := ⟨ho, rfl, rfl, hod⟩
    exact HandSPX.exc_get I1.kIn J T.ga T.gg T.exC (PySem.W.findObj_own T.hdC n rfl (by rw [hl, hu])) (handed_of ru) ⟨v, H1, I1.tok _, ru, q⟩
end

/-! ### classes as values, isinstance -/
section
variable {X : Cx} {W : WX} {pos : Pos}
theorem pe_clsV {c : Nat} {x : Str} (hg : Gl X x) (hm : X.mg x = some (.ref (He.ga X.K (nm c)))) (hdb : (x == ("__debug__" : Str)) = false) : PE X (.Name x pos) (TEm X.K W fun _ => M.pure (.cls c)) :=
  pe_cstV (w := .ref (He.ga X.K (nm c))) ⟨fun pins s σ H Q I h => ld_glob I hg hm ⟨.ref (He.ga X.K (nm c)), H, I, rfl, h⟩ hdb⟩ fun _ _ => .cls c
theorem pe_tyV {n : String} {x : Str} (hg : Gl X x) (hm : X.mg x = none) (hv : bootBuiltins x = some (.type n)) (hn : x ≠ "__name__") (hdb : (x == ("__debug__" : Str)) = false) : PE X (.Name x pos) (TEm X.K W fun _ => M.pure (.ty n)) :=
  pe_cstV (w := .ty n) ⟨fun pins s σ H Q I h => ld_blt I hg hm hv ⟨.ty n, H, I, rfl, h⟩ hn hdb⟩ fun _ _ => .ty n
end
def ctV (K : PySem.W.Frag) : CTy → Value
  | .bi n => .type n
  | .own c => .ref (He.ga K (nm c))
def tyP (ci cx : List Nat) (st : Sto) : PV → Option CTy
  | .non => some (.bi "NoneType")
  | .bl _ => some (.bi "bool")
  | .int _ => some (.bi "int")
  | .str _ => some (.bi "str")
  | .tup _ => some (.bi "tuple")
  | .lst _ => some (.bi "list")
  | .ro _ => some (.bi "list")
  | .dct _ => some (.bi "dict")
  | .ins c _ => if c ∈ ci then some (.own c) else none
  | .exc c _ => if c ∈ cx then some (.own c) else none
  | .m i => (match st[i]? with
    | some (.lst _) => some (.bi "list")
    | some (.dct _) => some (.bi "dict")
    | some (.ins c _) => if c ∈ ci then some (.own c) else none
    | _ => none)
  | _ => none
def isA (tb : List (CTy × CTy × Bool)) (t u : CTy) : Option Bool := (tb.find? fun e => decide (e.1 = t) && decide (e.2.1 = u)).map (·.2.2)
theorem isA_mem {tb : List (CTy × CTy × Bool)} {t u : CTy} {b : Bool} (h : isA tb t u = some b) : (t, u, b) ∈ tb := by
  unfold isA at h
  cases hf : tb.find? fun e => decide (e.1 = t) && decide (e.2.1 = u) with
  | none =>
    rw [hf] at h
    cases h
  | some e =>
    rw [hf] at h
    have h1 := List.find?_some hf
    have h2 := List.mem_of_find?_eq_some hf
    obtain ⟨e1, e2⟩ := Bool.and_eq_true_iff.mp h1
    obtain ⟨a, b', c⟩ := e
    cases h
    have q1 : a = t := of_decide_eq_true e1
    have q2 : b' = u := of_decide_eq_true e2
    subst q1 q2
    exact h2
def clsOf : PV → Option CTy
  | .cls c => some (.own c)
  | .ty n => some (.bi n)
  | _ => none
/-- isinstance(v, c): tb, the table of the classes; cs, the own classes whose things are asked -/
def isiV (tb : List (CTy × CTy × Bool)) (ci cx : List Nat) (v c : PV) : M PV := fun st => match tyP ci cx st v, clsOf c with
  | some t, some u => (match isA tb t u with
    | some b => .ok (.bl b) st
    | none => .bad)
  | _, _ => .bad
/-- an own class whose things are asked: an error's, an instance's -/
structure InsI (K : PySem.W.Frag) (C : Addr) : Prop where
  cl : Cls K C
  ha : PySem.W.findIn K (.ref C) "__class__" = some (some (.builtin "object.__class__"))
  hn : PySem.W.specialIn K (.builtin "object.__class__") "__get__" = some (some (.builtin "getset_descriptor.__get__"))
  ht : PySem.W.takesIn K (.builtin "object.__class__") = some true
  hm : PySem.W.mroIn K C (.type "object") = some true
/-- isinstance of what is tracked -/
def rIsi3 (K : PySem.W.Frag) (xs : List V) (H : Hp) (Q : VK) : Prop := rIsi K xs H Q ∨
  ∃ (a C : Addr) (d : Option Addr) (fs : List (Str × V)) (c : V) (u : Value) (b : Bool), xs = [.ref a, c] ∧ ClsV c u ∧ H a = some (exo a C d) ∧ (∀ dd, d = some dd → H dd = some (exd dd fs)) ∧ ExcC K C ∧ PySem.W.kitOne K (.ref C) u = some b ∧ Q (.bl b) H
theorem call_isi3 {X : Cx} : CallR X (.builtin "isinstance") (rIsi3 X.K) := by
  intro pins s σ H xs us Q I r h
  rcases h with h | ⟨a, C, d, fs, c, u, b, rfl, k, ea, ed, T, e, q⟩
  · exact call_isi pins s σ H xs us Q I r h
  · obtain ⟨u1, u2, rfl, r1, r2⟩ := vals2 r
    have e2 := k.eq r2
    subst e2
    obtain rfl : u1 = Value.ref a := r1
    obtain ⟨t1, ho⟩ := exo_at I.hok ea
    have fin : ∀ od, PySem.W.InstAt s.heap a ({ cls := .ref C, dict := d, data := .fields #[.ref t1, .none, .none, .none, .bool false, .none] } : Obj) C od → wpAny (model X.prog X.w) X.A (call (.builtin "isinstance") [.ref a, u2]) (EP X pins σ Q) X.xe s := fun od J =>
      PySem.W.kia_one (PySem.W.kitx_excM T.hg T.hk T.hs T.hd T.ha T.hn T.ht T.hm) I.kIn J e (fun z => nomatch z) fun tk => ⟨.bl b, H, I.tok tk, rfl, q⟩
    cases d with
    | none => exact fin none ⟨ho, rfl, rfl, trivial⟩
    | some dd =>
      obtain ⟨mA, hns, hr⟩ := exd_at I.hok (ed dd rfl)
      obtain ⟨od, hod, hl⟩ := lookIn_ns hns
      exact fin (some od) ⟨ho, rfl, rfl, hod⟩
/-- a value's type, as HandS reads it -/
inductive Ty3 (K : PySem.W.Frag) (H : Hp) : V → Value → Prop where
  | std {x : V} {t : Value} (h : TyX K H x t) : Ty3 K H x t
  | exc {a C : Addr} {d : Option Addr} (fs : List (Str × V)) (ea : H a = some (exo a C d)) (ed : ∀ dd, d = some dd → H dd = some (exd dd fs)) (T : ExcC K C) : Ty3 K H (.ref a) (.ref C)
section
variable {K : PySem.W.Frag} {μ : List Addr} {F H : Hp} {st : Sto} {ci cx : List Nat}
theorem tup_ty {a : Addr} {xs : List V} (h : SqT K H a xs) : TyX K H (.ref a) (.type "tuple") := by
  rcases h with (h | ⟨o, h⟩) | ⟨o, its, n, h1, h2, _⟩
  · exact .base (.tup h)
  · exact .fTuple h
  · exact .kTuple h1 h2
theorem lst_ty {a : Addr} {xs : List V} (h : SqL K H a xs) : TyX K H (.ref a) (.type "list") := by
  rcases h with (h | ⟨o, h⟩) | ⟨o, its, n, h1, h2, _⟩
  · exact .base (.lst h)
  · exact .base (.frz h)
  · exact .kList h1 h2
theorem ty_ok {v : PV} {x : V} {t : CTy} (hi : ∀ c ∈ ci, InsI K (He.ga K (nm c))) (hx : ∀ c ∈ cx, ExcC K (He.ga K (nm c))) (r : RSt K μ F H st) (e : En K μ F v x) (h : tyP ci cx st v = some t) : Ty3 K H x (ctV K t) := by
  cases e with
  | non => cases h; exact .std (.base .non)
  | bl b => cases h; exact .std (.base (.bl b))
  | int i => cases h; exact .std (.base (.int i))
  | str i => cases h; exact .std (.base (.str i))
  | tup q _ => cases h; exact .std (tup_ty (same_sqT r.sub q))
  | lst q _ => cases h; exact .std (.base (.lst (r.sub _ _ q)))
  | ro q _ => cases h; exact .std (lst_ty (r.sub.seq q))
  | dct q _ => cases h; exact .std (.base (.dK (r.sub _ _ q)))
  | @ins c fs a dx gs q _ =>
    unfold tyP at h
    dsimp only at h
    by_cases hc : c ∈ ci
    · rw [if_pos hc] at h
      cases h
      have T := hi c hc
      exact .std (.base (.ins (r.sub _ _ q) T.cl T.ha T.hn T.ht T.hm))
    · rw [if_neg hc] at h
      cases h
  | @exc c fs a d gs q1 q2 _ =>
    unfold tyP at h
    dsimp only at h
    by_cases hc : c ∈ cx
    · rw [if_pos hc] at h
      cases h
      refine .exc gs (r.sub _ _ q1) (fun dd e => ?_) (hx c hc)
      cases e
      exact r.sub _ _ q2
    · rw [if_neg hc] at h
      cases h
  | @exc0 c a q1 =>
    unfold tyP at h
    dsimp only at h
    by_cases hc : c ∈ cx
    · rw [if_pos hc] at h
      cases h
      exact .exc [] (r.sub _ _ q1) (fun dd e => nomatch e) (hx c hc)
    · rw [if_neg hc] at h
      cases h
  | fn _ => cases h
  | cls _ => cases h
  | ty _ => cases h
  | @m i a hm =>
    unfold tyP at h
    dsimp only at h
    cases hs : st[i]? with
    | none =>
      rw [hs] at h
      cases h
    | some mo =>
      rw [hs] at h
      have ob := r.ob i a mo hm hs
      cases mo with
      | frz w => cases h
      | lst xs =>
        cases h
        obtain ⟨_, vs, h1, _⟩ := ob
        exact .std (.base (.lst h1))
      | dct xs =>
        cases h
        obtain ⟨_, vs, h1, _⟩ := ob
        exact .std (.base (.dK h1))
      | ins c fs =>
        obtain ⟨_, dx, gs, h1, _⟩ := ob
        dsimp only at h
        by_cases hc : c ∈ ci
        · rw [if_pos hc] at h
          cases h
          have T := hi c hc
          exact .std (.base (.ins h1 T.cl T.ha T.hn T.ht T.hm))
        · rw [if_neg hc] at h
          cases h
theorem clsOf_ok {v : PV} {x : V} {t : CTy} (e : En K μ F v x) (h : clsOf v = some t) : ClsV x (ctV K t) := by
  cases e with
  | cls c => cases h; exact .own _
  | ty n => cases h; exact .ty n
  | _ => cases h
theorem cs_isi {tb : List (CTy × CTy × Bool)} (hk : ∀ e ∈ tb, PySem.W.kitOne K (ctV K e.1) (ctV K e.2.1) = some e.2.2) (hi : ∀ c ∈ ci, InsI K (He.ga K (nm c))) (hx : ∀ c ∈ cx, ExcC K (He.ga K (nm c))) : CallS K (rIsi3 K) (two2 (isiV tb ci cx)) := by
  intro μ F H st vs xs Wx Q r e p
  match vs, e, p with
  | [v, c], .cons (v := x) e1 (.cons (v := y) e2 .nil), p =>
    have p' : Post K (En K) Wx Q μ F H (match tyP ci cx st v, clsOf c with
      | some t, some u => (match isA tb t u with
        | some b => .ok (.bl b) st
        | none => .bad)
      | _, _ => .bad) := p
    cases h1 : tyP ci cx st v with
    | none =>
      rw [h1] at p'
      exact p'.elim
    | some t =>
      cases h2 : clsOf c with
      | none =>
        rw [h1, h2] at p'
        exact p'.elim
      | some u =>
        rw [h1, h2] at p'
        dsimp only at p'
        cases h3 : isA tb t u with
        | none =>
          rw [h3] at p'
          exact p'.elim
        | some b =>
          rw [h3] at p'
          have q := post_here p' r (.bl b)
          have hkk := hk _ (isA_mem h3)
          have hcl := clsOf_ok e2 h2
          have hty := ty_ok hi hx r e1 h1
          generalize ctV K t = tv at hty hkk
          cases hty with
          | std hty => exact .inl ⟨x, y, _, _, b, rfl, hcl, hty, hkk, q⟩
          | exc fs ea ed T => exact .inr ⟨_, _, _, fs, y, _, b, rfl, hcl, ea, ed, T, hkk, q⟩
  | [], _, p => exact p.elim
  | [_], _, p => exact p.elim
  | _ :: _ :: _ :: _, _, p => exact p.elim
end
end L3
/-! L3M: repr of data. -/
namespace L3
open PySem PySem.Spec PyProof.Rows L2
def keyD : Key → PyData
  | .inl i => .int i
  | .inr x => .str x
/-- data that repr shows -/
def dataR : Nat → PV → Option PyData
  | _, .non => some .none
  | _, .bl b => some (.bool b)
  | _, .int i => some (.int i)
  | _, .str s => some (.str s)
  | k + 1, .tup xs => (xs.mapM (dataR k)).map .tuple
  | k + 1, .lst xs => (xs.mapM (dataR k)).map .list
  | k + 1, .dct kvs => (kvs.mapM fun p => (dataR k p.2).map fun d => (keyD p.1, d)).map .dict
  | _, _ => none
def topR (st : Sto) : PV → Option PV
  | .m i => (match st[i]? with
    | some (.lst xs) => some (.lst xs)
    | some (.frz w) => some w
    | _ => none)
  | .tup xs => some (.tup xs)
  | .lst xs => some (.lst xs)
  | .dct kvs => some (.dct kvs)
  | _ => none
def isRef : PV → Bool
  | .tup _ => true
  | .lst _ => true
  | .dct _ => true
  | _ => false
def reprV (v : PV) : M PV := fun st => match (topR st v).bind fun w => if isRef w then dataR 12 w else none with
  | some d => (match d.showable && (lineOk d.shown.length && Nat.ble d.depth 64) with
    | true => .ok (.str d.shown) st
    | false => .bad)
  | none => .bad
/-- sys.modules is no list of ours -/
def SysD (h : Heap) : Prop := ∃ o, h.get? sysModules = some o ∧ o.cls = .type "dict"
section
variable {X : Cx} {pins : List (Addr × Obj)} {σ : L2.St} {H : Hp} {s : Shared} {μ : List Addr} {F : Hp}
theorem mapM_reads {k : Nat} (ih : ∀ {v : PV} {x : V} {u : Value} {d : PyData}, En X.K μ F v x → dataR k v = some d → RelV x u → ∃ as, Reads s.heap u d as ∧ sysModules ∉ as) :
    ∀ {xs : List PV} {vs : List V} {us : List Value} {ds : List PyData}, Ens X.K μ F xs vs → xs.mapM (dataR k) = some ds → Vals vs us → ∃ as, ReadsAll s.heap us ds as ∧ sysModules ∉ as
  | [], _, _, ds, .nil, h, r => by
    cases r
    rw [List.mapM_nil] at h
    cases h
    exact ⟨_, .nil, by simp⟩
  | x :: xs, _, _, ds, .cons e es, h, .cons r1 r2 => by
    rw [List.mapM_cons] at h
    cases hx : dataR k x with
    | none =>
      rw [hx] at h
      cases h
    | some d =>
      rw [hx] at h
      cases hr : xs.mapM (dataR k) with
      | none =>
        rw [hr] at h
        cases h
      | some r =>
        rw [hr] at h
        cases h
        obtain ⟨a1, b1, c1⟩ := ih e hx r1
        obtain ⟨a2, b2, c2⟩ := mapM_reads ih es hr r2
        exact ⟨_, .cons b1 b2, by simp [c1, c2]⟩
theorem kv_reads {k : Nat} (ih : ∀ {v : PV} {x : V} {u : Value} {d : PyData}, En X.K μ F v x → dataR k v = some d → RelV x u → ∃ as, Reads s.heap u d as ∧ sysModules ∉ as) :
    ∀ {xs : List (Key × PV)} {ks : List (Key × V)} {vs : List (Key × Value)} {es : List DictEntry} {ds : List (PyData × PyData)}, EnK X.K μ F xs ks → (xs.mapM fun p => (dataR k p.2).map fun d => (keyD p.1, d)) = some ds → KV ks vs → Pairs (mixKind X.prog X.w) es vs →
      (∃ as, ReadsAll s.heap (es.map (·.key)) (ds.map (·.1)) as ∧ sysModules ∉ as) ∧ ∃ as, ReadsAll s.heap (es.map (·.val)) (ds.map (·.2)) as ∧ sysModules ∉ as
  | [], _, _, _, ds, .nil, h, r, p => by
    cases r
    cases p
    rw [List.mapM_nil] at h
    cases h
    exact ⟨⟨_, .nil, by simp⟩, ⟨_, .nil, by simp⟩⟩
  | (kk, x) :: xs, _, _, _, ds, .cons e es, h, .cons r1 r2, .cons p1 p2 p3 => by
    rw [List.mapM_cons] at h
    cases hx : dataR k x with
    | none =>
      simp only [hx] at h
      cases h
    | some d =>
      simp only [hx] at h
      cases hr : xs.mapM fun p => (dataR k p.2).map fun d => (keyD p.1, d) with
      | none =>
        rw [hr] at h
        cases h
      | some r =>
        rw [hr] at h
        cases h
        obtain ⟨q1, q2⟩ := r1
        obtain ⟨a1, b1, c1⟩ := ih e hx q2
        obtain ⟨⟨a2, b2, c2⟩, ⟨a3, b3, c3⟩⟩ := kv_reads ih es hr r2 p3
        rw [← q1] at p1
        refine ⟨?_, ⟨a1 ++ a3, ?_, by simp [c1, c3]⟩⟩
        · rcases keyIs_shape p1 with ⟨i, t, rfl, ek⟩ | ⟨y, t, rfl, ek⟩
          · refine ⟨[] ++ a2, ?_, by simpa using c2⟩
            show ReadsAll s.heap (_ :: _) (PyData.int i :: _) _
            dsimp only
            rw [ek]
            exact .cons (.int i t) b2
          · refine ⟨[] ++ a2, ?_, by simpa using c2⟩
            show ReadsAll s.heap (_ :: _) (PyData.str y :: _) _
            dsimp only
            rw [ek]
            exact .cons (.str y t) b2
        · show ReadsAll s.heap (_ :: _) (d :: _) _
          dsimp only
          rw [p2]
          exact .cons b1 b3
theorem lst_reads {k : Nat} {ds : List PyData} {xs : List PV} {vs : List V} {a : Addr} (I : Inv X pins σ H s) (hs : SysD s.heap) (ih : ∀ {v : PV} {x : V} {u : Value} {d : PyData}, En X.K μ F v x → dataR k v = some d → RelV x u → ∃ as, Reads s.heap u d as ∧ sysModules ∉ as)
    (h1 : H a = some (.lst vs)) (r : Ens X.K μ F xs vs) (h : xs.mapM (dataR k) = some ds) : ∃ as, Reads s.heap (.ref a) (.list ds) as ∧ sysModules ∉ as := by
  obtain ⟨its, rv, ⟨o, n, ho, hc, _, hd⟩, _⟩ := I.list (SqL.of h1)
  obtain ⟨as, b, c⟩ := mapM_reads ih r h rv
  refine ⟨_, .list ho hc hd b, ?_⟩
  simp only [List.mem_cons, not_or]
  refine ⟨fun z => ?_, c⟩
  obtain ⟨o2, q1, q2⟩ := hs
  rw [z, ho] at q1
  cases q1
  rw [hc] at q2
  exact absurd q2 (by decide)
theorem dct_reads {k : Nat} {ds : List (PyData × PyData)} {xs : List (Key × PV)} {vs : List (Key × V)} {a : Addr} (I : Inv X pins σ H s) (ih : ∀ {v : PV} {x : V} {u : Value} {d : PyData}, En X.K μ F v x → dataR k v = some d → RelV x u → ∃ as, Reads s.heap u d as ∧ sysModules ∉ as)
    (h1 : H a = some (.dK vs)) (r : EnK X.K μ F xs vs) (h : (xs.mapM fun p => (dataR k p.2).map fun d => (keyD p.1, d)) = some ds) : ∃ as, Reads s.heap (.ref a) (.dict ds) as ∧ sysModules ∉ as := by
  obtain ⟨z, hd, vs0, r0, dd⟩ := dk_of I.hok h1
  obtain ⟨o, es, ep, ho, hx, hdat, hk, hp, hn⟩ := dd
  obtain ⟨⟨a1, b1, c1⟩, ⟨a2, b2, c2⟩⟩ := kv_reads ih r h r0 hp
  refine ⟨a :: a1 ++ a2, .dict ho hx.1 hdat b1 b2, ?_⟩
  have hne : a ≠ sysModules := beq_eq_false_iff_ne.mp hd
  simp only [List.cons_append, List.mem_cons, List.mem_append, not_or]
  exact ⟨fun z => hne z.symm, c1, c2⟩
theorem data_reads (I : Inv X pins σ H s) (hs : SysD s.heap) (hF : Same F H) : ∀ (k : Nat) {v : PV} {x : V} {u : Value} {d : PyData}, En X.K μ F v x → dataR k v = some d → RelV x u → ∃ as, Reads s.heap u d as ∧ sysModules ∉ as := by
  intro k
  induction k with
  | zero =>
    intro v x u d e h r
    cases v with
    | non => cases e; cases h; cases r; exact ⟨_, .none, by simp⟩
    | bl b => cases e; cases h; cases r; exact ⟨_, .bool b, by simp⟩
    | int b =>
      cases e
      cases h
      obtain ⟨t, rfl⟩ := r
      exact ⟨_, .int b t, by simp⟩
    | str b =>
      cases e
      cases h
      obtain ⟨t, rfl⟩ := r
      exact ⟨_, .str b t, by simp⟩
    | _ => cases h
  | succ k ih =>
    intro v x u d e h r
    cases v with
    | non => cases e; cases h; cases r; exact ⟨_, .none, by simp⟩
    | bl b => cases e; cases h; cases r; exact ⟨_, .bool b, by simp⟩
    | int b =>
      cases e
      cases h
      obtain ⟨t, rfl⟩ := r
      exact ⟨_, .int b t, by simp⟩
    | str b =>
      cases e
      cases h
      obtain ⟨t, rfl⟩ := r
      exact ⟨_, .str b t, by simp⟩
    | tup xs =>
      cases e with
      | tup hq hr =>
        obtain ⟨ds, hm, rfl⟩ := Option.map_eq_some_iff.mp (show (xs.mapM (dataR k)).map PyData.tuple = some d from h)
        cases r
        obtain ⟨its, rv, ⟨o, ho, hc, n, hd⟩, _⟩ := I.tuple (same_sqT hF hq)
        obtain ⟨as, b, c⟩ := mapM_reads ih hr hm rv
        exact ⟨_, .tuple ho hc hd b, c⟩
    | lst xs =>
      cases e with
      | lst hq hr =>
        obtain ⟨ds, hm, rfl⟩ := Option.map_eq_some_iff.mp (show (xs.mapM (dataR k)).map PyData.list = some d from h)
        cases r
        exact lst_reads I hs ih (hF _ _ hq) hr hm
    | dct xs =>
      cases e with
      | dct hq hr =>
        obtain ⟨ds, hm, rfl⟩ := Option.map_eq_some_iff.mp (show ((xs.mapM fun p => (dataR k p.2).map fun d => (keyD p.1, d)).map PyData.dict) = some d from h)
        cases r
        exact dct_reads I ih (hF _ _ hq) hr hm
    | _ => cases h
end
/-- repr(x): what is shown -/
def rRepr3 (X : Cx) (xs : List V) (H : Hp) (Q : VK) : Prop := ∃ (a : Addr) (d : PyData), xs = [.ref a] ∧ d.showable = true ∧ d.shown.length ≤ sizeLine ∧ d.depth ≤ 64 ∧
  (∀ (pins : List (Addr × Obj)) (σ : L2.St) (s : Shared), Inv X pins σ H s → SysD s.heap → ∃ as, Reads s.heap (.ref a) d as ∧ sysModules ∉ as) ∧ Q (.str d.shown) H
theorem call_repr3 {X : Cx} (hgd : X.A.guards = some []) (hu : X.A.units + 66 < cLine) (hs : SysD X.base) : CallR X (.builtin "repr") (rRepr3 X) := by
  intro pins s σ H xs us Q I r h
  obtain ⟨a, d, rfl, h1, h2, h3, h4, q⟩ := h
  cases r with
  | cons r1 r2 =>
    cases r2
    cases r1
    obtain ⟨o, e1, e2⟩ := hs
    obtain ⟨as, h5, h6⟩ := h4 pins σ s I ⟨o, I.bk _ _ e1, e2⟩
    exact repr_of_reads' h5 h1 (fun _ => h6) hgd (by omega) (fun _ _ e => e) (fun h' u tk k => ⟨.str d.shown, H, I.kept (t' := tk) k, ⟨_, rfl⟩, q⟩) h2
theorem cs_repr {X : Cx} : CallS X.K (rRepr3 X) (one1 reprV) := by
  refine CallS.one fun μ F H st v x Wx Q r e p => ?_
  unfold reprV at p
  cases ht : topR st v with
  | none =>
    rw [ht] at p
    exact p.elim
  | some w =>
    rw [ht] at p
    dsimp only [Option.bind_some] at p
    cases hi : isRef w with
    | false =>
      rw [hi] at p
      exact p.elim
    | true =>
      rw [hi, if_pos rfl] at p
      cases hd : dataR 12 w with
      | none =>
        rw [hd] at p
        exact p.elim
      | some d =>
        rw [hd] at p
        dsimp only at p
        cases hz : d.showable && (lineOk d.shown.length && Nat.ble d.depth 64) with
        | false =>
          rw [hz] at p
          exact p.elim
        | true =>
          rw [hz] at p
          obtain ⟨z1, z2⟩ := Bool.and_eq_true_iff.mp hz
          obtain ⟨z2, z3⟩ := Bool.and_eq_true_iff.mp z2
          have q := post_here p r (.str _)
          have fin : ∃ a, x = .ref a ∧ ∀ (pins : List (Addr × Obj)) (σ : L2.St) (s : Shared), Inv X pins σ H s → SysD s.heap → ∃ as, Reads s.heap (.ref a) d as ∧ sysModules ∉ as := by
            have plain : ∀ {a : Addr}, En X.K μ F w (.ref a) → ∀ (pins : List (Addr × Obj)) (σ : L2.St) (s : Shared), Inv X pins σ H s → SysD s.heap → ∃ as, Reads s.heap (.ref a) d as ∧ sysModules ∉ as :=
              fun ew pins σ s I hs => data_reads I hs r.sub 12 ew hd rfl
            cases e with
            | tup h1 h2 =>
              cases ht
              exact ⟨_, rfl, plain (.tup h1 h2)⟩
            | lst h1 h2 =>
              cases ht
              exact ⟨_, rfl, plain (.lst h1 h2)⟩
            | dct h1 h2 =>
              cases ht
              exact ⟨_, rfl, plain (.dct h1 h2)⟩
            | @m i a hm =>
              refine ⟨a, rfl, ?_⟩
              unfold topR at ht
              dsimp only at ht
              cases hs : st[i]? with
              | none =>
                rw [hs] at ht
                cases ht
              | some mo =>
                rw [hs] at ht
                have ob := r.ob i a mo hm hs
                cases mo with
                | frz u =>
                  cases ht
                  exact plain ob
                | lst xs =>
                  cases ht
                  obtain ⟨_, vs, h1, h2⟩ := ob
                  obtain ⟨ds, hmm, rfl⟩ := Option.map_eq_some_iff.mp (show (xs.mapM (dataR 11)).map PyData.list = some d from hd)
                  exact fun pins σ s I hs => lst_reads I hs (data_reads I hs r.sub 11) h1 h2 hmm
                | _ => cases ht
            | _ => cases ht
          obtain ⟨a, rfl, h4⟩ := fin
          exact ⟨a, d, rfl, z1, lineOk_le z2, Nat.le_of_ble_eq_true z3, h4, q⟩
end L3
/-! L3N: the rules in short, for printed texts. -/
namespace L3
open PySem PySem.Spec PyProof.Rows L2

/-! ### combinators -/
abbrev eC (v : PV) : Rho → M PV := fun _ => M.pure v
abbrev e1 (f : PV → M PV) (a : Rho → M PV) : Rho → M PV := fun ρ => M.bind (a ρ) f
abbrev e2 (f : PV → PV → M PV) (a b : Rho → M PV) : Rho → M PV := fun ρ => M.bind (a ρ) fun v => M.bind (b ρ) fun w => f v w
abbrev eA (f : List PV → M PV) (a : Rho → M (List PV)) : Rho → M PV := fun ρ => M.bind (a ρ) f
abbrev eNot (a : Rho → M PV) : Rho → M PV := fun ρ => M.bind (a ρ) fun v => M.bind (testV v) fun k => M.pure (.bl (!k))
abbrev eAnd (a b : Rho → M PV) : Rho → M PV := fun ρ => M.bind (a ρ) fun v => M.bind (testV v) fun k => match k with
  | true => b ρ
  | false => M.pure v
abbrev eOr (a b : Rho → M PV) : Rho → M PV := fun ρ => M.bind (a ρ) fun v => M.bind (testV v) fun k => match k with
  | true => M.pure v
  | false => b ρ
abbrev eIf (t : Rho → M Bool) (a b : Rho → M PV) : Rho → M PV := fun ρ => M.bind (t ρ) fun k => match k with
  | true => a ρ
  | false => b ρ
abbrev tV (a : Rho → M PV) : Rho → M Bool := fun ρ => M.bind (a ρ) testV
abbrev tCmpM (op : CmpOp) (a b : Rho → M PV) : Rho → M Bool := fun ρ => M.bind (a ρ) fun v => M.bind (b ρ) fun w => M.bind (cmpV op v w) boolV
abbrev tNotM (a : Rho → M Bool) : Rho → M Bool := fun ρ => M.bind (a ρ) fun k => M.pure (!k)
abbrev tAndM (a b : Rho → M Bool) : Rho → M Bool := fun ρ => M.bind (a ρ) fun k => match k with
  | true => b ρ
  | false => M.pure false
abbrev tOrM (a b : Rho → M Bool) : Rho → M Bool := fun ρ => M.bind (a ρ) fun k => match k with
  | true => M.pure true
  | false => b ρ
abbrev tYesM : Rho → M Bool := fun _ => M.pure true
abbrev aN : Rho → M (List PV) := fun _ => M.pure []
abbrev aC (a : Rho → M PV) (r : Rho → M (List PV)) : Rho → M (List PV) := fun ρ => consA (a ρ) (r ρ)
abbrev eApp (o e : Rho → M PV) : Rho → M PV := fun ρ => M.bind (o ρ) fun v => M.bind (isLst v) fun _ => M.bind (e ρ) fun w => appV v w
abbrev eSl (mu : Bool) (a : Rho → M PV) (l h : Rho → M (Option Int)) : Rho → M PV := fun ρ => M.bind (a ρ) fun v => M.bind (l ρ) fun l => M.bind (h ρ) fun u => cutV' mu v l u
abbrev pN : Rho → M (Option Int) := fun _ => M.pure none
abbrev pS (a : Rho → M PV) : Rho → M (Option Int) := fun ρ => M.bind (a ρ) partI
abbrev iV (a : Rho → M PV) : Rho → M (List PV) := fun ρ => M.bind (a ρ) itemsV
abbrev iA (f : List PV → M (List PV)) (a : Rho → M (List PV)) : Rho → M (List PV) := fun ρ => M.bind (a ρ) f
def enumL : List PV → M (List PV)
  | [v] => enumV v
  | _ => M.bad
abbrev sBrk : SM := fun ρ st => .bk ρ st
abbrev sCnt : SM := fun ρ st => .ct ρ st
abbrev sRetN : SM := fun _ st => .rt .non st

/-! ### what a body may lean on -/
structure Good (X : Cx) (W : WX) (k : Nat) : Prop where
  calm : X.calm = true
  nd : X.N.Nodup
  room : Room k X.A
  gd : X.A.guards = some []
  tk : Takes X W
theorem Good.u1 {X : Cx} {W : WX} {k : Nat} (g : Good X W k) : X.A.units + 1 < cLine := by have := g.room.un; omega
theorem Good.u64 {X : Cx} {W : WX} {k : Nat} (g : Good X W k) : X.A.units + 64 < cLine := by have := g.room.un; omega
theorem Good.u66 {X : Cx} {W : WX} {k : Nat} (g : Good X W k) : X.A.units + 66 < cLine := by have := g.room.un; omega
theorem Good.blk {X : Cx} {W : WX} {k : Nat} (g : Good X W k) (s : Shared) (H : Hp) (scope : Scope) (cenv : PySem.Env) (fp : List Addr) : Good (X.blk s H scope cenv fp) W0 k := ⟨g.calm, g.nd, g.room, g.gd, takes0⟩
section
variable {X : Cx} {W : WX} {k : Nat} {pos p2 tpos apos cpos : Pos} {a b c e o i tg iter : Expr} {es rest : List Expr} {ma mb mc mo mi m : Rho → M PV} {ta tb : Rho → M Bool} {mr : Rho → M (List PV)} {x : Str} {jj : Nat}
/-! ### expressions -/
theorem xv (i : Nat) (hN : X.N[i]? = some x := by rfl) (hv : Vis X.env.scope x := by first | exact Or.inl rfl | exact Or.inr (Or.inl rfl) | exact Or.inr (Or.inr rfl)) (hd : (x == ("__debug__" : Str)) = false := by decide) (hcd : (x == ("__classdict__" : Str)) = false := by decide) :
    PE X (.Name x pos) (TEm X.K W (getV i)) := pe_getV hN hv hd hcd
theorem xi {n : Int} : PE X (.Constant (.int n) jj pos) (TEm X.K W (eC (.int n))) := pe_cstV pe_int fun _ _ => .int n
theorem xs {z : Str} : PE X (.Constant (.str z) jj pos) (TEm X.K W (eC (.str z))) := pe_cstV pe_str fun _ _ => .str z
theorem xb {z : Bool} : PE X (.Constant (.bool z) jj pos) (TEm X.K W (eC (.bl z))) := pe_cstV pe_bl fun _ _ => .bl z
theorem xn : PE X (.Constant .none jj pos) (TEm X.K W (eC .non)) := pe_cstV pe_non fun _ _ => .non
theorem xadd (mu : Bool) (ha : PE X a (TEm X.K W ma)) (hb : PE X b (TEm X.K W mb)) : PE X (.BinOp a .Add b pos) (TEm X.K W (e2 (binV .Add mu) ma mb)) := pe_bin op_addA br_add ha hb
theorem xsub (ha : PE X a (TEm X.K W ma)) (hb : PE X b (TEm X.K W mb)) : PE X (.BinOp a .Sub b pos) (TEm X.K W (e2 (binV .Sub false) ma mb)) := pe_bin op_sub br_sub ha hb
theorem xmul (ha : PE X a (TEm X.K W ma)) (hb : PE X b (TEm X.K W mb)) : PE X (.BinOp a .Mult b pos) (TEm X.K W (e2 (binV .Mult false) ma mb)) := pe_bin op_mulA br_mul ha hb
theorem xfdv (ha : PE X a (TEm X.K W ma)) (hb : PE X b (TEm X.K W mb)) : PE X (.BinOp a .FloorDiv b pos) (TEm X.K W (e2 (binV .FloorDiv false) ma mb)) := pe_bin op_fdivA br_fdiv ha hb
theorem xmod (ha : PE X a (TEm X.K W ma)) (hb : PE X b (TEm X.K W mb)) : PE X (.BinOp a .Mod b pos) (TEm X.K W (e2 (binV .Mod false) ma mb)) := pe_bin op_modN br_mod ha hb
theorem xpow (ha : PE X a (TEm X.K W ma)) (hb : PE X b (TEm X.K W mb)) : PE X (.BinOp a .Pow b pos) (TEm X.K W (e2 (binV .Pow false) ma mb)) := pe_bin op_pow br_pow ha hb
theorem xneg (ha : PE X a (TEm X.K W ma)) : PE X (.UnaryOp .USub a pos) (TEm X.K W (e1 negV ma)) := pe_negV ha
theorem xnot (ha : PE X a (TEm X.K W ma)) : PE X (.UnaryOp .Not a pos) (TEm X.K W (eNot ma)) := pe_notV ha
theorem xand (ha : PE X a (TEm X.K W ma)) (hb : PE X (.BoolOp .And (b :: rest) pos) (TEm X.K W mb)) : PE X (.BoolOp .And (a :: b :: rest) pos) (TEm X.K W (eAnd ma mb)) := pe_andV ha hb
theorem xor (ha : PE X a (TEm X.K W ma)) (hb : PE X (.BoolOp .Or (b :: rest) pos) (TEm X.K W mb)) : PE X (.BoolOp .Or (a :: b :: rest) pos) (TEm X.K W (eOr ma mb)) := pe_orV ha hb
theorem xone {op : BoolOp} (h : PE X a (TEm X.K W ma)) : PE X (.BoolOp op [a] pos) (TEm X.K W ma) := pe_oneV h
theorem xif (hc : PT X c (TTm X.K W ta)) (ha : PE X a (TEm X.K W ma)) (hb : PE X b (TEm X.K W mb)) : PE X (.IfExp c a b pos) (TEm X.K W (eIf ta ma mb)) := pe_ifV hc ha hb
theorem xeq (G : Good X W k) (ha : PE X a (TEm X.K W ma)) (hb : PE X b (TEm X.K W mb)) (hm : behindInMarks .Eq b = false := by rfl) : PE X (.Compare a [.Eq] [b] pos) (TEm X.K W (e2 (cmpV .Eq) ma mb)) := pe_cmpm ((op_eqD G.u64).or op_eq) br_eq ha hb hm
theorem xne (G : Good X W k) (ha : PE X a (TEm X.K W ma)) (hb : PE X b (TEm X.K W mb)) (hm : behindInMarks .NotEq b = false := by rfl) : PE X (.Compare a [.NotEq] [b] pos) (TEm X.K W (e2 (cmpV .NotEq) ma mb)) := pe_cmpm ((op_neD G.u64).or op_ne) br_ne ha hb hm
theorem xatt (f : Nat) {n : Str} (ci cx : List Nat) (hi : ∀ c ∈ ci, InsF X.K f c) (hx : ∀ c ∈ cx, ExcF X.K f c) (he : PE X e (TEm X.K W m)) (hn : nm f = n := by decide +kernel) (hb : attributeBase e n X.env (eval e X.env) = eval e X.env := by rfl) : PE X (.Attribute e n pos) (TEm X.K W (e1 (attrV f ci cx) m)) := pe_attrV hn hi hx he hb
theorem xsubs (G : Good X W k) (ha : PE X a (TEm X.K W ma)) (hb : PE X b (TEm X.K W mb)) (hs : PlainIx b := by intro _ _; rfl) : PE X (.Subscript a b pos) (TEm X.K W (e2 subV ma mb)) := pe_subV G.u1 ha hb hs
theorem xsl (mu : Bool) {lo hi : Option Expr} {ml mh : Rho → M (Option Int)} (ha : PE X a (TEm X.K W ma)) (hl : PartOf X W lo ml) (hh : PartOf X W hi mh) : PE X (.Subscript a (.Slice lo hi none p2) pos) (TEm X.K W (eSl mu ma ml mh)) := pe_sliceV ha hl hh
/-! ### arguments, displays -/
theorem an : PA X [] (TAm X.K W aN) := pa_nilV
theorem ac {me : Rho → M PV} (ha : PE X e (TEm X.K W me)) (hr : PA X es (TAm X.K W mr)) (hs : starEach (e :: es) X.env = (false, eval e X.env) :: starEach es X.env := by rfl) : PA X (e :: es) (TAm X.K W (aC me mr)) := pa_consV ha hr hs
theorem xtup {x1 : Nat} (h : PA X es (TAm X.K W mr)) : PE X (.Tuple es x1 pos) (TEm X.K W (eA newT mr)) := pe_tupV h
theorem xlst (mu : Bool) (h : PA X es (TAm X.K W mr)) : PE X (.List es pos) (TEm X.K W (eA (newL mu) mr)) := pe_lstV h
theorem dn : PDs X W pos [] [] [] aN := pd_nil
theorem dc {v : Expr} {kk : Str} {ks : List (Option Expr)} {vs : List Expr} {kks : List Key} {mv : Rho → M PV} (hv : PE X v (TEm X.K W mv)) (hr : PDs X W pos ks vs kks mr) : PDs X W pos (some (.Constant (.str kk) jj p2) :: ks) (v :: vs) (Sum.inr kk :: kks) (aC mv mr) := pd_cons pe_str hv hr
theorem xdct (mu : Bool) {keys : List (Option Expr)} {values : List Expr} {ks : List Key} (h : PDs X W pos keys values ks mr) (hall : keys.all (·.isSome) = true := by rfl) (hl : keys.length = values.length := by rfl) (h0 : keys ≠ [] := by exact fun z => nomatch z) (h15 : keys.length ≤ 15 := by decide) (hks : ks.Nodup := by decide +kernel) :
    PE X (.Dict keys values pos) (TEm X.K W (eDct mu ks mr)) := pe_dctV h hall hl h0 h15 hks
/-! ### tests -/
theorem tv (ha : PE X a (TEm X.K W ma)) (he : ∀ whole, isTrue a X.env whole = (do let v ← whole; standAt a.pos; holding [v] (truthy v)) := by intro; rfl) : PT X a (TTm X.K W (tV ma)) := pt_testV ha he
theorem teq (G : Good X W k) (ha : PE X a (TEm X.K W ma)) (hb : PE X b (TEm X.K W mb)) (hm : behindInMarks .Eq b = false := by rfl) : PT X (.Compare a [.Eq] [b] pos) (TTm X.K W (tCmpM .Eq ma mb)) := pt_cmpV ((op_eqD G.u64).or op_eq) br_eq ha hb hm
theorem tne (G : Good X W k) (ha : PE X a (TEm X.K W ma)) (hb : PE X b (TEm X.K W mb)) (hm : behindInMarks .NotEq b = false := by rfl) : PT X (.Compare a [.NotEq] [b] pos) (TTm X.K W (tCmpM .NotEq ma mb)) := pt_cmpV ((op_neD G.u64).or op_ne) br_ne ha hb hm
theorem tnot (ha : PT X a (TTm X.K W ta)) : PT X (.UnaryOp .Not a pos) (TTm X.K W (tNotM ta)) := pt_notV ha
theorem tand1 (ha : PT X a (TTm X.K W ta)) : PW X (.BoolOp .And [a] pos) (TTm X.K W ta) := pw_and1 ha
theorem tor1 (ha : PT X a (TTm X.K W ta)) : PW X (.BoolOp .Or [a] pos) (TTm X.K W ta) := pw_or1 ha
theorem tandc (ha : PT X a (TTm X.K W ta)) (hb : PW X (.BoolOp .And (b :: rest) pos) (TTm X.K W tb)) : PW X (.BoolOp .And (a :: b :: rest) pos) (TTm X.K W (tAndM ta tb)) := pw_andV ha hb
theorem torc (ha : PT X a (TTm X.K W ta)) (hb : PW X (.BoolOp .Or (b :: rest) pos) (TTm X.K W tb)) : PW X (.BoolOp .Or (a :: b :: rest) pos) (TTm X.K W (tOrM ta tb)) := pw_orV ha hb
end
theorem br_lt {K : PySem.W.Frag} : BinR K (rI0 fun i j => .bl (decide (i < j))) (cmpV .Lt) := br_cmpI fun _ _ => rfl
theorem br_le {K : PySem.W.Frag} : BinR K (rI0 fun i j => .bl (decide (i ≤ j))) (cmpV .LtE) := br_cmpI fun _ _ => rfl
theorem br_gt {K : PySem.W.Frag} : BinR K (rI0 fun i j => .bl (decide (j < i))) (cmpV .Gt) := br_cmpI fun _ _ => rfl
theorem br_ge {K : PySem.W.Frag} : BinR K (rI0 fun i j => .bl (decide (j ≤ i))) (cmpV .GtE) := br_cmpI fun _ _ => rfl
section
variable {X : Cx} {W : WX} {k : Nat} {pos p2 tpos apos cpos p : Pos} {a b c e o i tg iter elt : Expr} {es rest : List Expr} {ma mb mc mo mi m me : Rho → M PV} {ta tb tt : Rho → M Bool} {mr : Rho → M (List PV)} {x : Str} {jj : Nat}
theorem xlt (ha : PE X a (TEm X.K W ma)) (hb : PE X b (TEm X.K W mb)) (hm : behindInMarks .Lt b = false := by rfl) : PE X (.Compare a [.Lt] [b] pos) (TEm X.K W (e2 (cmpV .Lt) ma mb)) := pe_cmpm op_lt br_lt ha hb hm
theorem xle (ha : PE X a (TEm X.K W ma)) (hb : PE X b (TEm X.K W mb)) (hm : behindInMarks .LtE b = false := by rfl) : PE X (.Compare a [.LtE] [b] pos) (TEm X.K W (e2 (cmpV .LtE) ma mb)) := pe_cmpm op_le br_le ha hb hm
theorem xgt (ha : PE X a (TEm X.K W ma)) (hb : PE X b (TEm X.K W mb)) (hm : behindInMarks .Gt b = false := by rfl) : PE X (.Compare a [.Gt] [b] pos) (TEm X.K W (e2 (cmpV .Gt) ma mb)) := pe_cmpm op_gt br_gt ha hb hm
theorem xge (ha : PE X a (TEm X.K W ma)) (hb : PE X b (TEm X.K W mb)) (hm : behindInMarks .GtE b = false := by rfl) : PE X (.Compare a [.GtE] [b] pos) (TEm X.K W (e2 (cmpV .GtE) ma mb)) := pe_cmpm op_ge br_ge ha hb hm
theorem xis (ha : PE X a (TEm X.K W ma)) (hb : PE X b (TEm X.K W mb)) (hm : behindInMarks .Is b = false := by rfl) : PE X (.Compare a [.Is] [b] pos) (TEm X.K W (e2 (cmpV .Is) ma mb)) := pe_cmpm op_isN br_is ha hb hm
theorem xisn (ha : PE X a (TEm X.K W ma)) (hb : PE X b (TEm X.K W mb)) (hm : behindInMarks .IsNot b = false := by rfl) : PE X (.Compare a [.IsNot] [b] pos) (TEm X.K W (e2 (cmpV .IsNot) ma mb)) := pe_cmpm op_notN br_isnot ha hb hm
theorem tisn (ha : PE X a (TEm X.K W ma)) (hb : PE X b (TEm X.K W mb)) (hm : behindInMarks .IsNot b = false := by rfl) : PT X (.Compare a [.IsNot] [b] pos) (TTm X.K W (tCmpM .IsNot ma mb)) := pt_cmpV op_notN br_isnot ha hb hm
theorem tlt (ha : PE X a (TEm X.K W ma)) (hb : PE X b (TEm X.K W mb)) (hm : behindInMarks .Lt b = false := by rfl) : PT X (.Compare a [.Lt] [b] pos) (TTm X.K W (tCmpM .Lt ma mb)) := pt_cmpV op_lt br_lt ha hb hm
theorem tle (ha : PE X a (TEm X.K W ma)) (hb : PE X b (TEm X.K W mb)) (hm : behindInMarks .LtE b = false := by rfl) : PT X (.Compare a [.LtE] [b] pos) (TTm X.K W (tCmpM .LtE ma mb)) := pt_cmpV op_le br_le ha hb hm
theorem tgt (ha : PE X a (TEm X.K W ma)) (hb : PE X b (TEm X.K W mb)) (hm : behindInMarks .Gt b = false := by rfl) : PT X (.Compare a [.Gt] [b] pos) (TTm X.K W (tCmpM .Gt ma mb)) := pt_cmpV op_gt br_gt ha hb hm
theorem tge (ha : PE X a (TEm X.K W ma)) (hb : PE X b (TEm X.K W mb)) (hm : behindInMarks .GtE b = false := by rfl) : PT X (.Compare a [.GtE] [b] pos) (TTm X.K W (tCmpM .GtE ma mb)) := pt_cmpV op_ge br_ge ha hb hm
theorem tis (ha : PE X a (TEm X.K W ma)) (hb : PE X b (TEm X.K W mb)) (hm : behindInMarks .Is b = false := by rfl) : PT X (.Compare a [.Is] [b] pos) (TTm X.K W (tCmpM .Is ma mb)) := pt_cmpV op_isN br_is ha hb hm
/-! ### calls of what is built in: h, that the name is free -/
theorem xlen (h : X.mg "len" = none) (ha : PA X (e :: es) (TAm X.K W mr)) (hg : Gl X "len" := by rfl) (he : starEach (e :: es) X.env = (false, eval e X.env) :: starEach es X.env := by rfl) (hpl : (backTo pos (starEach es X.env)).any (·.1) = false := by rfl) : PE X (.Call (.Name "len" p) (e :: es) [] pos) (TEm X.K W (eA (one1 lenV) mr)) :=
  pe_bltV call_len cs_len hg h (by decide +kernel) ha (by decide) (by decide) he hpl
theorem xabs (h : X.mg "abs" = none) (ha : PA X (e :: es) (TAm X.K W mr)) (hg : Gl X "abs" := by rfl) (he : starEach (e :: es) X.env = (false, eval e X.env) :: starEach es X.env := by rfl) (hpl : (backTo pos (starEach es X.env)).any (·.1) = false := by rfl) : PE X (.Call (.Name "abs" p) (e :: es) [] pos) (TEm X.K W (eA (one1 absV') mr)) :=
  pe_bltV call_abs cs_abs hg h (by decide +kernel) ha (by decide) (by decide) he hpl
theorem xisi (h : X.mg "isinstance" = none) (tb : List (CTy × CTy × Bool)) (ci cx : List Nat) (hk : ∀ e ∈ tb, PySem.W.kitOne X.K (ctV X.K e.1) (ctV X.K e.2.1) = some e.2.2) (hi : ∀ c ∈ ci, InsI X.K (He.ga X.K (nm c))) (hx : ∀ c ∈ cx, ExcC X.K (He.ga X.K (nm c))) (ha : PA X (e :: es) (TAm X.K W mr)) (hg : Gl X "isinstance" := by rfl)
    (he : starEach (e :: es) X.env = (false, eval e X.env) :: starEach es X.env := by rfl) (hpl : (backTo pos (starEach es X.env)).any (·.1) = false := by rfl) : PE X (.Call (.Name "isinstance" p) (e :: es) [] pos) (TEm X.K W (eA (two2 (isiV tb ci cx)) mr)) :=
  pe_bltV call_isi3 (cs_isi hk hi hx) hg h (by decide +kernel) ha (by decide) (by decide) he hpl
theorem xrepr (G : Good X W k) (hs : SysD X.base) (h : X.mg "repr" = none) (ha : PA X (e :: es) (TAm X.K W mr)) (hg : Gl X "repr" := by rfl) (he : starEach (e :: es) X.env = (false, eval e X.env) :: starEach es X.env := by rfl) (hpl : (backTo pos (starEach es X.env)).any (·.1) = false := by rfl) :
    PE X (.Call (.Name "repr" p) (e :: es) [] pos) (TEm X.K W (eA (one1 reprV) mr)) := pe_bltV (call_repr3 G.gd G.u66 hs) cs_repr hg h (by decide +kernel) ha (by decide) (by decide) he hpl
theorem xint (h : X.mg "int" = none) (ha : PA X (e :: es) (TAm X.K W mr)) (hg : Gl X "int" := by rfl) (he : starEach (e :: es) X.env = (false, eval e X.env) :: starEach es X.env := by rfl) (hpl : (backTo pos (starEach es X.env)).any (·.1) = false := by rfl) : PE X (.Call (.Name "int" p) (e :: es) [] pos) (TEm X.K W (eA (one1 intV) mr)) :=
  pe_btyV call_int1 cs_int hg h (by decide +kernel) ha (by decide) (by decide) he hpl
theorem xstr (h : X.mg "str" = none) (ha : PA X (e :: es) (TAm X.K W mr)) (hg : Gl X "str" := by rfl) (he : starEach (e :: es) X.env = (false, eval e X.env) :: starEach es X.env := by rfl) (hpl : (backTo pos (starEach es X.env)).any (·.1) = false := by rfl) : PE X (.Call (.Name "str" p) (e :: es) [] pos) (TEm X.K W (eA (one1 strV) mr)) :=
  pe_btyV call_str_int cs_str hg h (by decide +kernel) ha (by decide) (by decide) he hpl
theorem xlist (mu : Bool) (h : X.mg "list" = none) (ha : PA X (e :: es) (TAm X.K W mr)) (hg : Gl X "list" := by rfl) (he : starEach (e :: es) X.env = (false, eval e X.env) :: starEach es X.env := by rfl) (hpl : (backTo pos (starEach es X.env)).any (·.1) = false := by rfl) : PE X (.Call (.Name "list" p) (e :: es) [] pos) (TEm X.K W (eA (one1 (listV mu)) mr)) :=
  pe_btyV call_list_of cs_list hg h (by decide +kernel) ha (by decide) (by decide) he hpl
theorem xtuple (h : X.mg "tuple" = none) (ha : PA X (e :: es) (TAm X.K W mr)) (hg : Gl X "tuple" := by rfl) (he : starEach (e :: es) X.env = (false, eval e X.env) :: starEach es X.env := by rfl) (hpl : (backTo pos (starEach es X.env)).any (·.1) = false := by rfl) : PE X (.Call (.Name "tuple" p) (e :: es) [] pos) (TEm X.K W (eA (one1 tupV) mr)) :=
  pe_btyV call_tuple_of cs_tuple hg h (by decide +kernel) ha (by decide) (by decide) he hpl
theorem xty (n : String) (hm : X.mg x = none) (hv : bootBuiltins x = some (.type n) := by decide +kernel) (hg : Gl X x := by rfl) (hn : x ≠ "__name__" := by decide) (hdb : (x == ("__debug__" : Str)) = false := by decide) : PE X (.Name x pos) (TEm X.K W (eC (.ty n))) := pe_tyV hg hm hv hn hdb
theorem xcls (c : Nat) (hm : X.mg x = some (.ref (He.ga X.K (nm c)))) (hg : Gl X x := by rfl) (hdb : (x == ("__debug__" : Str)) = false := by decide) : PE X (.Name x pos) (TEm X.K W (eC (.cls c))) := pe_clsV hg hm hdb
theorem xapp (ho : PE X o (TEm X.K W mo)) (he : PE X e (TEm X.K W m)) (hbase : attributeBase o "append" X.env (eval o X.env) = eval o X.env := by rfl) (hline : (apos.endLine == cpos.line) = true := by rfl) (hs : starEach [e] X.env = (false, eval e X.env) :: starEach [] X.env := by rfl) :
    PE X (.Call (.Attribute o "append" apos) [e] [] cpos) (TEm X.K W (eApp mo m)) := pe_appV ho he hbase hline hs
theorem xcomp (mu : Bool) {t : CT} {ifs : List Expr} {scope : Scope} (own : List (Str × Nat)) {mi : Rho → M (List PV)} {tt : Rho → M Bool} {me : Rho → M PV} (G : Good X W k) (hi : PI X tg iter (TIm X.K W mi)) (ok : blkC X.N X.env.scope scope own = true) (hsl : ∀ i ∈ slots t, i ∈ own.map (·.2))
    (hg : ∀ (s : Shared) (H : Hp) (C : Addr) (cl : List (Str × Addr)) (fp : List Addr), TgOk (X.blk s H scope (compEnvC scope cl C X.env) fp) tg t)
    (ht : ∀ (s : Shared) (H : Hp) (C : Addr) (cl : List (Str × Addr)) (fp : List Addr), Good (X.blk s H scope (compEnvC scope cl C X.env) fp) W0 k → PTs (X.blk s H scope (compEnvC scope cl C X.env) fp) ifs (TTm X.K W0 tt))
    (he : ∀ (s : Shared) (H : Hp) (C : Addr) (cl : List (Str × Addr)) (fp : List Addr), Good (X.blk s H scope (compEnvC scope cl C X.env) fp) W0 k → PE (X.blk s H scope (compEnvC scope cl C X.env) fp) elt (TEm X.K W0 me)) (hs : ∀ x, foldedSetIterable iter X.env x = pure x := by intro; rfl) :
    PE X (.ListComp elt [⟨tg, iter, ifs, 0⟩] scope pos) (TEm X.K W (compM mu t (own.map (·.2)) mi tt me)) :=
  pe_compV G.calm G.nd hi (blkOk_by ok) hsl hg (fun s H C cl fp => ht s H C cl fp (G.blk ..)) (fun s H C cl fp => he s H C cl fp (G.blk ..)) hs
theorem qn : PTs X [] (TTm X.K W tYesM) := ⟨fun pins s σ H Q I h => pts_nil.run pins s σ H Q I (by
  obtain ⟨μ, F, ρ, st, re, rs, p⟩ := h
  exact post_here p rs rfl)⟩
theorem q1 (h : PT X c (TTm X.K W ta)) : PTs X [c] (TTm X.K W ta) := pts_one h
/-! ### what is walked -/
theorem iv (he : PE X e (TEm X.K W m)) : PI X tg e (TIm X.K W (iV m)) := pi_valV he
theorem ir1 (h : X.mg "range" = none) (ha : PA X [a] (TAm X.K W mr)) (hg : Gl X "range" := by rfl) (hs : starEach [a] X.env = [(false, eval a X.env)] := by rfl) : PI X tg (.Call (.Name "range" p) [a] [] pos) (TIm X.K W (iA range1 mr)) := pi_rng1V hg h ha hs
theorem ir2 (h : X.mg "range" = none) (ha : PA X [a, b] (TAm X.K W mr)) (hg : Gl X "range" := by rfl) (hs : starEach [a, b] X.env = [(false, eval a X.env), (false, eval b X.env)] := by rfl) (hs2 : starEach [b] X.env = [(false, eval b X.env)] := by rfl) : PI X tg (.Call (.Name "range" p) [a, b] [] pos) (TIm X.K W (iA range2 mr)) := pi_rng2V hg h ha hs hs2
theorem ien {elts : List Expr} {kk : Nat} (h : X.mg "enumerate" = none) (ha : PA X [a] (TAm X.K W mr)) (hg : Gl X "enumerate" := by rfl) (hs : starEach [a] X.env = [(false, eval a X.env)] := by rfl) : PI X (.Tuple elts kk tpos) (.Call (.Name "enumerate" p) [a] [] pos) (TIm X.K W (iA enumL mr)) := pi_enumV hg h ha hs
theorem izp {elts : List Expr} {kk : Nat} (h : X.mg "zip" = none) (ha : PA X [a, b] (TAm X.K W mr)) (hg : Gl X "zip" := by rfl) (hs : starEach [a, b] X.env = (false, eval a X.env) :: starEach [b] X.env := by rfl) (hpl : (backTo pos (starEach [b] X.env)).any (·.1) = false := by rfl) :
    PI X (.Tuple elts kk tpos) (.Call (.Name "zip" p) [a, b] [] pos) (TIm X.K W (iA zipV mr)) := pi_zipV hg h ha hs hpl
/-! ### own defs and errors -/
/-- a def of the module, as its callers see it -/
structure CallO (P : Program) (w : World) (K : PySem.W.Frag) (mg : Str → Option Value) (base : Heap) (x : Str) (j : Nat) (m : List PV → M PV) : Prop where
  ex : ∃ (f : Addr) (fd : FuncData) (ps : List Str), mg x = some (.ref f) ∧ PySem.W.keepIn K (.ref f) = true ∧ Binds K fd ps [] ∧ FnG P w K mg base j f fd ps (spOf K m)
theorem xcall {j : Nat} {f : List PV → M PV} (O : CallO X.prog X.w X.K X.mg X.base x j f) (G : Good X W k) (hj : j ≤ k) (ha : PA X (e :: es) (TAm X.K W mr)) (hg : Gl X x := by rfl) (hdb : (x == ("__debug__" : Str)) = false := by decide)
    (he : starEach (e :: es) X.env = (false, eval e X.env) :: starEach es X.env := by rfl) (hpl : (backTo pos (starEach es X.env)).any (·.1) = false := by rfl) : PE X (.Call (.Name x p) (e :: es) [] pos) (TEm X.K W (eA f mr)) := by
  obtain ⟨fa, fd, ps, h1, h2, h3, h4⟩ := O.ex
  have z := pe_callG (W := W) (dps := []) (pos := pos) (p := p) G.tk h4 (G.room.mono hj) G.gd hg h1 h2 h3 .nil (fun _ _ => .nil) ha hdb he hpl
  have e : (fun ρ => M.bind (mr ρ) fun vs => f (vs ++ [])) = eA f mr := by
    funext ρ
    show (M.bind (mr ρ) fun vs => f (vs ++ [])) = M.bind (mr ρ) f
    congr 1
    funext vs
    rw [List.append_nil]
  rw [e] at z
  exact z
theorem xcall0 {j : Nat} {f : List PV → M PV} (O : CallO X.prog X.w X.K X.mg X.base x j f) (G : Good X W k) (hj : j ≤ k) (hg : Gl X x := by rfl) (hdb : (x == ("__debug__" : Str)) = false := by decide) : PE X (.Call (.Name x p) [] [] pos) (TEm X.K W fun _ => f []) := by
  obtain ⟨fa, fd, ps, h1, h2, h3, h4⟩ := O.ex
  refine ⟨fun pins s σ H Q I h => ?_⟩
  obtain ⟨μ, F, ρ, st, re, rs, q⟩ := h
  refine wpAny_Call_Name_kw (ld_glob I hg h1 ?_ hdb)
  exact PySem.W.callWith_K0 I.kIn h2 (run_fnG (us := []) (vs := []) h4 (G.room.mono hj) G.gd h3 .nil (passAt G.tk σ) I .nil ⟨μ, F, st, [], rs, .nil, q⟩)
/-- an error's class, as its callers see it -/
structure MkO (P : Program) (w : World) (K : PySem.W.Frag) (mg : Str → Option Value) (base : Heap) (x : Str) (j : Nat) (c : Nat) (fs : List Nat) : Prop where
  ex : ∃ (fI : Addr) (fd : FuncData) (ps : List Str), XCls K (He.ga K (nm c)) fI ∧ (∀ f ∈ fs, PySem.W.findIn K (.ref (He.ga K (nm c))) (nm f) = some none) ∧ fs.length ≤ 2 ∧ mg x = some (.ref (He.ga K (nm c))) ∧ Binds K fd ps [] ∧ FnG P w K mg base j fI fd ps (spX K (He.ga K (nm c)) (fs.map nm))
theorem xmk {j c : Nat} {fs : List Nat} (O : MkO X.prog X.w X.K X.mg X.base x j c fs) (G : Good X W k) (hj : j + 1 ≤ k) (ha : PA X (e :: es) (TAm X.K W mr)) (hg : Gl X x := by rfl) (hdb : (x == ("__debug__" : Str)) = false := by decide)
    (he : starEach (e :: es) X.env = (false, eval e X.env) :: starEach es X.env := by rfl) (hpl : (backTo pos (starEach es X.env)).any (·.1) = false := by rfl) : PE X (.Call (.Name x p) (e :: es) [] pos) (TEm X.K W (eA (mkX c fs) mr)) := by
  obtain ⟨fI, fd, ps, Y, hno, h2, hm, hb, F1⟩ := O.ex
  exact pe_mkX Y hno h2 F1 (G.room.mono hj) G.gd hb hg hm ha hdb he hpl
theorem xmk0 {j c : Nat} (O : MkO X.prog X.w X.K X.mg X.base x j c []) (G : Good X W k) (hj : j + 1 ≤ k) (hg : Gl X x := by rfl) (hdb : (x == ("__debug__" : Str)) = false := by decide) : PE X (.Call (.Name x p) [] [] pos) (TEm X.K W fun _ => mkX c [] []) := by
  obtain ⟨fI, fd, ps, Y, hno, h2, hm, hb, F1⟩ := O.ex
  exact pe_mkX0 Y F1 (G.room.mono hj) G.gd hb hg hm hdb
/-! ### statements -/
theorem gn (i : Nat) (hi : X.N[i]? = some x := by rfl) (hx : Loc X.env.scope x := by first | exact Or.inl rfl | exact Or.inr rfl) (hf : X.fn x = true ∨ X.env.scope.names.lookup x = some .local := by first | exact Or.inr rfl | exact Or.inl rfl) : TgOk X (.Name x pos) (.nm i) := .nm hi hx hf
theorem gt {kk : Nat} {ts : List CT} (h : TgsOk X es ts) : TgOk X (.Tuple es kk pos) (.tup ts) := .tup h
theorem gsn : TgsOk X [] [] := .nil
theorem gsc {t : CT} {ts : List CT} (h : TgOk X e t) (r : TgsOk X es ts) : TgsOk X (e :: es) (t :: ts) := .cons h r
variable {st : Stmt} {sts sa sb body : List Stmt} {m1 m2 mb' : SM}
theorem ssn : PSs X [] (TSm X.K W sSkip) := pss_nilV
theorem ssc (h1 : PS X st (TSm X.K W m1)) (h2 : PSs X sts (TSm X.K W m2)) : PSs X (st :: sts) (TSm X.K W (sSeq m1 m2)) := pss_consV h1 h2
theorem sas {t : CT} (G : Good X W k) (ht : TgOk X tg t) (he : PE X e (TEm X.K W m)) (hs : swapsWithSole [tg] e pos.line X.env = pure false := by rfl) (hw : swappedStores [tg] e X.env = pure none := by rfl) : PS X (.Assign [tg] e pos) (TSm X.K W (sAsg t m)) := ps_asgV G.calm G.nd he ht hs hw
theorem ssb (G : Good X W k) (ho : PE X o (TEm X.K W mo)) (hi : PE X i (TEm X.K W mi)) (he : PE X e (TEm X.K W m)) (hs : swapsWithSole [.Subscript o i p2] e pos.line X.env = pure false := by rfl) (hw : swappedStores [.Subscript o i p2] e X.env = pure none := by rfl)
    (ha : ∀ v, assign (.Subscript o i p2) X.env v = (do
      let ov ← holding [v] (eval o X.env)
      let iv ← holding [v, ov] (eval i X.env)
      standAt p2
      holding [v, ov, iv] (setItem ov iv v)
      release [v, ov, iv] []) := by intro; rfl) : PS X (.Assign [.Subscript o i p2] e pos) (TSm X.K W (sSub mo mi m)) := ps_subV G.u1 he ho hi hs hw ha
theorem sex (he : PE X e (TEm X.K W m)) (hs : swapsWith e none pos.line X.env = pure false := by rfl) : PS X (.Expr e pos) (TSm X.K W (sExpr m)) := ps_exprV he hs
theorem srt (he : PE X e (TEm X.K W m)) : PS X (.Return (some e) pos) (TSm X.K W (sRet m)) := ps_retV he
theorem srn : PS X (.Return none pos) (TSm X.K W sRetN) := ps_retNV
theorem sps : PS X (.Pass pos) (TSm X.K W sSkip) := ps_passV
theorem sbr : PS X (.Break pos) (TSm X.K W sBrk) := ps_breakV
theorem sct : PS X (.Continue pos) (TSm X.K W sCnt) := ps_continueV
theorem sif (hc : PT X c (TTm X.K W ta)) (ha : PSs X sa (TSm X.K W m1)) (hb : PSs X sb (TSm X.K W m2)) : PS X (.If c sa sb pos) (TSm X.K W (sIf ta m1 m2)) := ps_ifV hc ha hb
theorem sfo {t : CT} {mi : Rho → M (List PV)} (G : Good X W k) (hp : PassesOwn (model X.prog X.w) X.A X.env X.xe) (hi : PI X tg iter (TIm X.K W mi)) (ht : TgOk X tg t) (hb : PSs X body (TSm X.K W mb')) (hs : ∀ x, foldedSetIterable iter X.env x = pure x := by intro; rfl) :
    PS X (.For tg iter body [] pos) (TSm X.K W (sFor t mi mb')) := ps_forV hp G.calm G.nd hi ht hb hs
end

/-! ### a def -/
section
variable {P : Program} {w : World} {K : PySem.W.Frag} {mg : Str → Option Value} {base : Heap} {x qual : Str} {params : Arguments} {body : List Stmt} {scope : Scope} {f : Addr} {fd : FuncData} {N ps : List Str} {k : Nat}
theorem fnG {sp : Sp} (F : FunD K x qual params body scope [] [] f fd) (S : FnScope N ps scope) (len : ∀ vs H Q E, sp vs H Q E → vs.length = ps.length)
    (h : ∀ (cdv : Value) (A : Around) (outer : List PySem.Env) (s : Shared) (H : Hp) (vs : List V) (Q : VK) (E : XK), Good (cxOf (L2.CX P w) P w K mg base N qual scope f cdv A outer s H E) (fun c d _ H => E c d H) k → PassesOwn (model P w) (cxOf (L2.CX P w) P w K mg base N qual scope f cdv A outer s H E).A (cxOf (L2.CX P w) P w K mg base N qual scope f cdv A outer s H E).env (cxOf (L2.CX P w) P w K mg base N qual scope f cdv A outer s H E).xe → sp vs H Q E →
      ∃ t, PSs (cxOf (L2.CX P w) P w K mg base N qual scope f cdv A outer s H E) body t ∧ t { nx := fun _ H' => Q .non H', rt := Q } (L2.start N vs) H) : FnG P w K mg base (k + 1) f fd ps sp := by
  obtain ⟨oc, od, dV, kV, doc, pm, an, cdv, ct, osl, rfl, lk, hcd, _, _⟩ := F.ex
  exact fn_ofG lk hcd S len fun A outer s H vs Q E hr hg hsp => h cdv A outer s H vs Q E ⟨rfl, S.nd, hr, hg, takes_of rfl rfl rfl rfl⟩ (passes_of rfl) hsp
theorem fnM {b : SM} (kp : Bool) (F : FunD K x qual params body scope [] [] f fd) (S : FnScope N ps scope)
    (h : ∀ (cdv : Value) (A : Around) (outer : List PySem.Env) (s : Shared) (H : Hp) (E : XK), Good (cxOf (L2.CX P w) P w K mg base N qual scope f cdv A outer s H E) (fun c d _ H => E c d H) k → PassesOwn (model P w) (cxOf (L2.CX P w) P w K mg base N qual scope f cdv A outer s H E).A (cxOf (L2.CX P w) P w K mg base N qual scope f cdv A outer s H E).env (cxOf (L2.CX P w) P w K mg base N qual scope f cdv A outer s H E).xe →
      PSs (cxOf (L2.CX P w) P w K mg base N qual scope f cdv A outer s H E) body (TSm K (fun c d _ H => E c d H) b)) : FnG P w K mg base (k + 1) f fd ps (spOf K (runBody kp ps.length N.length b)) :=
  fnG F S (fun vs H Q E h => body_len h) fun cdv A outer s H vs Q E G hp hsp => ⟨_, h cdv A outer s H E G hp, body_reads hsp⟩
theorem callO {m : List PV → M PV} {j : Nat} (F : FunD K x qual params body scope [] [] f fd) (hm : mg x = some (.ref f)) (G : FnG P w K mg base j f fd ps (spOf K m)) (hb : ∀ (kV doc pm : Value) (an : Option Addr) (cdv ct : Value) (us : List Value), us.length = ps.length → bindArgs (PySem.W.fnOf x qual params body scope .none kV doc pm an cdv ct) ⟨us, []⟩ = pure (ps.zip us)) : CallO P w K mg base x j m :=
  ⟨f, fd, ps, hm, F.kp, F.bindsN hb, G⟩
end
end L3
/-! L3O: the head of a law. -/
namespace L3
open PySem PySem.Spec PyProof.Rows L2
theorem law_callG {P : Program} {w : World} {K : PySem.W.Frag} {mg mb : Str → Option Value} {k : Nat} {fa a : Addr} {fd : FuncData} {x : Str} {sp : Sp} {s₁ : Shared} {vs : List Value} {ns : List Int}
    (KX : K.In s₁.heap) (hns : s₁.heap.Ns mainGlobals mg) (hb : s₁.heap.Ns builtinsNs mb) (hbb : ∀ x : Str, x ≠ "__name__" → mb x = bootBuiltins x) (hlim : s₁.heap.NoLimit) (hg : s₁.gens = #[])
    (ha : s₁.heap.get? a = some { cls := .type "list", data := .seq vs.toArray }) (hi : IntsAre vs ns) (hl : ns.length ≤ sizeLine) (hr : Room k callerA)
    (F : ∀ base : Heap, K.In base → base.Ns mainGlobals mg → FnG P w K mg base k fa fd [x] sp) (hbind : ∀ (s : Shared) (u : Value), BindsTo s fd ⟨[u], []⟩ [(x, u)])
    (hsp : ∀ H : Hp, Only H → SqL K H a (ns.map V.int) → sp [.ref a] H (fun v _ => v = .bl true) fun _ _ _ => False) :
    codeAny (model P w) callerA (.call (.ref fa) ⟨[.ref a], []⟩) (fun r s' => r = .ok (.ret (.bool true)) ∧ OldK s₁.heap s'.heap ∧ s'.os = s₁.os ∧ AllBare s'.gens) s₁ := by
  have rv := vals_ints hi
  have lenV := hi.length
  -- from an abstract heap in which nothing but the script may be tracked
  have core : ∀ H : Hp, Only H → SqL K H a (ns.map V.int) → HOk P w H s₁.heap → (∀ b, H b ≠ none → b = a) → (H a ≠ none → K.lookup a = none) →
      codeAny (model P w) callerA (.call (.ref fa) ⟨[.ref a], []⟩) (fun r s' => r = .ok (.ret (.bool true)) ∧ OldK s₁.heap s'.heap ∧ s'.os = s₁.os ∧ AllBare s'.gens) s₁ := by
    intro H hO hS hok hA hK
    have base_of : ∀ {b : Addr} {o : Obj}, s₁.heap.get? b = some o → H b = none → (hidT s₁.heap H).get? b = some o := fun e n => hidT_get e n
    have noA : ∀ {b : Addr} {o : Obj} {es : Array DictEntry} {ep : Nat}, s₁.heap.get? b = some o → o.data = .dict es ep → H b = none := fun {b o es ep} e d => by
      cases q : H b with
      | none => rfl
      | some u =>
        have e' : b = a := hA b (by rw [q]; simp)
        subst e'
        rw [ha] at e; cases e
        have d' : Data.seq vs.toArray _ = Data.dict es ep := d
        cases d'
    have nsK : ∀ {b : Addr} {m : Str → Option Value}, s₁.heap.Ns b m → (hidT s₁.heap H).Ns b m := fun {b m} ⟨o, es, ep, e, d, r⟩ => ⟨o, es, ep, base_of e (noA e d), d, r⟩
    have hKb : K.In (hidT s₁.heap H) := fun b o e => base_of (KX b o e) (by
      cases q : H b with
      | none => rfl
      | some u =>
        have e' : b = a := hA b (by rw [q]; simp)
        subst e'
        rw [hK (by rw [q]; simp)] at e; cases e)
    have hM : Mod K mg (hidT s₁.heap H) := ⟨hKb, nsK hns, ⟨mb, nsK hb, hbb⟩, let ⟨mc, h1, h2⟩ := hlim; ⟨mc, nsK h1, h2⟩⟩
    have e0 : Env0 P w K mg (hidT s₁.heap H) callerA [] s₁ H := ⟨rfl, hM, fun b o e => of_hidT e, Nat.le_of_eq (hidT_size _ _), trivial, fun b hb => absurd (show b ∈ ([] : List Addr) from hb) (by simp), hok, .of_eq hg⟩
    refine codeAny_mono ((F _ hKb (nsK hns)).run callerA [] s₁ H ⟨[.ref a], []⟩ [.ref a] [.ref a] _ _ hr rfl e0 (hbind s₁ (.ref a)) (.cons rfl .nil) (hsp H hO hS)) fun r s' h => ?_
    cases r with
    | error e =>
      obtain ⟨_, _, _, _, _, _, _, _, _, _, _, _, z⟩ := h
      exact z.elim
    | ok fl =>
      cases fl with
      | next => exact False.elim h
      | brk => exact False.elim h
      | cont => exact False.elim h
      | ret u =>
        obtain ⟨v, H', os, bare, un, hok', r', q⟩ := h
        have q' : v = .bl true := q
        subst q'
        obtain rfl : u = Value.bool true := r'
        refine ⟨rfl, OldK.of_keep fun b o e => ?_, os, bare⟩
        cases q : H b with
        | none => exact un.keep b o e q (by intro z; exact absurd (show b ∈ ([] : List Addr) from z) (by simp)) (by simp)
        | some u =>
          rcases hO b with z | ⟨ob, xs, z⟩
          · rw [q] at z; cases z
          · have z2 := un.frzs b ob _ z
            obtain ⟨e1, _⟩ := hok b _ z
            obtain ⟨e2, _⟩ := hok' b _ z2
            rw [e] at e1; cases e1
            exact e2
  cases hk : K.lookup a with
  | some o =>
    -- the script is one of the module's own objects
    have e := KX a o hk
    rw [ha] at e
    cases e
    refine core (fun _ => none) (fun _ => .inl rfl) (.inr ⟨_, vs.toArray, _, hk, rfl, rfl, rfl, by rw [List.size_toArray, lenV]; exact hl, by simpa using rv⟩) (fun b u z => by have z' : (none : Option HO) = some u := z; cases z') (fun b z => absurd rfl z) fun z => absurd rfl z
  | none =>
    refine core (fun b => if b = a then some (.frz { cls := .type "list", data := .seq vs.toArray } (.lst (ns.map V.int))) else none) (fun b => ?_) (.inl (.inr ⟨{ cls := .type "list", data := .seq vs.toArray }, if_pos rfl⟩)) (fun b u z => ?_) (fun b z => ?_) fun _ => hk
    · by_cases hb : b = a
      · exact .inr ⟨_, _, if_pos hb⟩
      · exact .inl (if_neg hb)
    · by_cases hb : b = a
      · have z' := (if_pos hb).symm.trans z
        cases z'
        subst hb
        exact ⟨ha, by rw [List.length_map]; exact hl, vs, _, rv, ha⟩
      · have z' := (if_neg hb).symm.trans z
        cases z'
    · by_cases hb : b = a
      · exact hb
      · exact absurd (if_neg hb) z
/-- a law: F gives the written part, the function object, the promise over every base -/
theorem walk_ofG {l : PySem.W.OpenLaw} {n k : Nat} {q : Program} {loose : List Str} {XP : (Str → Option Value) → Heap → Prop} {YP : World → Heap → Prop} {d : DefRec} {x : Str} {m : List PV → M PV}
    (hn : l.most = some n) (hn2 : n ≤ sizeLine) (hdf : d.params.defaults = []) (hr : Room k callerA)
    (hm : ∀ ns : List Int, ns.length ≤ n → (∀ k ∈ ns, Builtin.Int.intBits k ≤ 1048576) → ∃ st, m [.ro (ns.map PV.int)] [] = .ok (.bl true) st)
    (F : ∀ (w : World) (mg : Str → Option Value) (fa : Addr) (h : Heap), YP w h → h.Ns mainGlobals mg → mg d.name = some (.ref fa) →
      ∃ (K : PySem.W.Frag) (fd : FuncData), K.In h ∧ (∀ (s : Shared) (u : Value), BindsTo s fd ⟨[u], []⟩ [(x, u)]) ∧
        ∀ base : Heap, K.In base → base.Ns mainGlobals mg → FnG l.prog w K mg base k fa fd [x] (spOf K m)) :
    PySem.W.WalkO q loose XP YP l.row.toRowW d [] (fun f vs => PySem.call f vs) := by
  refine Att.attach_callB hn hdf fun w s₀ s₁ mg mb fa o pm cd doc a vs ns G Y ho hd hcd hmg hobj hints hlen hbits hg => ?_
  obtain ⟨K, fd, KX, hb, hF⟩ := F w mg fa _ Y G.T.g hmg
  refine law_callG KX G.T.g G.T.b G.T.builtins G.T.nolimit hg hobj hints (Nat.le_trans hlen hn2) hr hF hb fun H hO hS => ?_
  obtain ⟨st, e⟩ := hm ns hlen hbits
  have ens : ∀ ms : List Int, Ens K [] H (ms.map PV.int) (ms.map V.int) := fun ms => by
    induction ms with
    | nil => exact .nil
    | cons i is ih => exact .cons (.int i) ih
  refine ⟨[], H, [], [.ro (ns.map PV.int)], ⟨rfl, List.nodup_nil, fun _ _ h => h, fun i a o h => by simp at h, fun a h => by simp at h⟩, .one (.ro hS (ens ns)), ?_⟩
  rw [e]
  intro μ' F' H' v x r ev
  cases ev
  rfl
/-! ### the Hook with own checks -/
abbrev AlX : Type := Bool × He.AlD
def kG (g : Addr → Option Obj) (n : Nat) : PySem.W.Frag := He.frG g (sysModules :: cStatics :: He.asD g n)
def obsX (own : PySem.W.Frag → Bool) (fa : List He.Fa) (fn : List He.DefD) (K : PySem.W.Frag) : AlX := (own K, He.obsD fa fn K)
def obsXG (n : Nat) (own : PySem.W.Frag → Bool) (fa : List He.Fa) (fn : List He.DefD) (g : Addr → Option Obj) : AlX := obsX own fa fn (kG g n)
def hookX (n : Nat) (own : PySem.W.Frag → Bool) (fa : List He.Fa) (fn : List He.DefD) : PySem.W.Hook where
  α := AlX
  obs := fun s => obsXG n own fa fn s.heap.get?
  val := fun _ => (true, He.valD fn)
  says := fun _ h => ∃ K : PySem.W.Frag, K.In h ∧ own K = true ∧ He.SaysD fa fn K
  of := fun _ _ e => ⟨_, He.frG_in, congrArg (fun z : AlX => z.1) e, congrArg (fun z : AlX => z.2) e⟩
  keeps := fun _ _ _ ⟨K, hK, c⟩ k => ⟨K, PySem.W.Frag.In.keeps hK k, c⟩
theorem obsXG_eq {n : Nat} {own : PySem.W.Frag → Bool} {fa : List He.Fa} {fn : List He.DefD} {g : Addr → Option Obj} {s : Shared} (h : ∀ a, g a = s.heap.get? a) : obsXG n own fa fn g = (hookX n own fa fn).obs s := by
  have e : g = s.heap.get? := funext h
  rw [e] <;> rfl
/-! ### own checks -/
def sysB (K : PySem.W.Frag) : Bool := match K.lookup sysModules with
  | some ⟨.type c, _, _, _⟩ => decide (c = "dict")
  | _ => false
theorem sysB_ok {K : PySem.W.Frag} {h : Heap} (X : K.In h) (e : sysB K = true) : SysD h := by
  unfold sysB at e
  cases q : K.lookup sysModules with
  | none =>
    rw [q] at e
    cases e
  | some o =>
    obtain ⟨oc, od, dt, sl⟩ := o
    rw [q] at e
    cases oc with
    | type c =>
      have : c = "dict" := of_decide_eq_true e
      subst this
      exact ⟨_, X _ _ q, rfl⟩
    | _ => cases e
def xbaseB (K : PySem.W.Frag) (C0 : Addr) : Bool := PySem.W.readsIn K C0 (.type "type") && (decide (PySem.W.specialIn K (.ref C0) "__getattribute__" = some (some (.builtin "type.__getattribute__"))) && (match PySem.W.findCls K (.ref C0) (.type "type") "__init__" with
  | some (.val (.builtin s)) => decide (s = "ValueError.__init__")
  | _ => false))
theorem xbaseB_ok {K : PySem.W.Frag} {C0 : Addr} (h : xbaseB K C0 = true) : XBase K C0 := by
  obtain ⟨h1, h⟩ := Bool.and_eq_true_iff.mp h
  obtain ⟨h2, h3⟩ := Bool.and_eq_true_iff.mp h
  refine ⟨⟨h1, of_decide_eq_true h2⟩, ?_⟩
  split at h3
  · rename_i s e
    have : s = "ValueError.__init__" := of_decide_eq_true h3
    subst this
    exact e
  · cases h3
def oexB (K : PySem.W.Frag) (C : Addr) : Bool := match K.lookup C with
  | some ⟨.type t, _, .cls cd, sl⟩ => (match cd.mro, sl.toList with
    | .ref C' :: bm, [_, _, _, _, some (.builtin n), _] => decide (t = "type") && (decide (C' = C) && (decide (n = "ValueError.__new__") && (cd.hasDict && (!cd.hasDel && PySem.HandSPX.refsVE bm))))
    | _, _ => false)
  | _ => false
/-- an error's class: all that is asked of it -/
def xclsB (K : PySem.W.Frag) (c fI : Addr) : Bool := oexB K c && (decide (PySem.W.findIn K (.ref c) "__init__" = some (some (.ref fI))) && (decide (PySem.W.typeIn K (.ref fI) = some (.type "function")) && (decide (PySem.W.findIn K (.ref c) "__setattr__" = some (some (.builtin "object.__setattr__"))) && (decide (PySem.W.subIn K (.ref c) (.type "BaseException") = some true) && (decide (PySem.W.typeIn K (.ref c) = some (.type "type")) && PySem.W.keepIn K (.ref c))))))
theorem xclsB_ok {K : PySem.W.Frag} {C fI : Addr} (h : xclsB K C fI = true) : XCls K C fI := by
  obtain ⟨h0, h⟩ := Bool.and_eq_true_iff.mp h
  obtain ⟨h1, h⟩ := Bool.and_eq_true_iff.mp h
  obtain ⟨h2, h⟩ := Bool.and_eq_true_iff.mp h
  obtain ⟨h3, h⟩ := Bool.and_eq_true_iff.mp h
  obtain ⟨h4, h⟩ := Bool.and_eq_true_iff.mp h
  obtain ⟨h5, h6⟩ := Bool.and_eq_true_iff.mp h
  refine ⟨⟨?_, of_decide_eq_true h3, of_decide_eq_true h4, of_decide_eq_true h5, h6⟩, of_decide_eq_true h1, of_decide_eq_true h2⟩
  unfold oexB at h0
  split at h0
  · rename_i t dd cd sl ho
    split at h0
    · rename_i C' bm k0 k1 k2 k3 n k5 hm hs
      obtain ⟨z1, z⟩ := Bool.and_eq_true_iff.mp h0
      obtain ⟨z2, z⟩ := Bool.and_eq_true_iff.mp z
      obtain ⟨z3, z⟩ := Bool.and_eq_true_iff.mp z
      obtain ⟨z4, z⟩ := Bool.and_eq_true_iff.mp z
      obtain ⟨z5, z6⟩ := Bool.and_eq_true_iff.mp z
      have e1 := of_decide_eq_true z1
      have e2 := of_decide_eq_true z2
      have e3 := of_decide_eq_true z3
      obtain ⟨nm', bs, mro, ns, qn, hd, sn, sub, ab, col, del⟩ := cd
      dsimp only at hm z4 z5
      have e5 : del = false := by simpa using z5
      subst e1 e2 e3 z4 e5 hm
      have hsl : sl = #[k0, k1, k2, k3, some (.builtin "ValueError.__new__"), k5] := by
        obtain ⟨l⟩ := sl
        simp only at hs
        rw [hs]
      subst hsl
      exact ⟨nm', qn, ns, bs, bm, sn, sub, ab, col, dd, k0, k1, k2, k3, k5, ho, z6⟩
    · cases h0
  · cases h0
def excCB (K : PySem.W.Frag) (D : Addr) : Bool := decide (PySem.W.findIn K (.ref D) "__getattribute__" = some (some (.builtin "BaseException.__getattribute__"))) && (decide (PySem.W.findIn K (.ref D) "__getattr__" = some none) && (decide (PySem.W.subIn K (.ref D) (.type "BaseException") = some true) && (PySem.W.hasDictIn K D &&
  (decide (PySem.W.findIn K (.ref D) "__class__" = some (some (.builtin "object.__class__"))) && (decide (PySem.W.specialIn K (.builtin "object.__class__") "__get__" = some (some (.builtin "getset_descriptor.__get__"))) && (decide (PySem.W.takesIn K (.builtin "object.__class__") = some true) && decide (PySem.W.mroIn K D (.type "object") = some true)))))))
theorem excCB_ok {K : PySem.W.Frag} {D : Addr} (h : excCB K D = true) : ExcC K D ∧ XfC K D := by
  obtain ⟨h1, h⟩ := Bool.and_eq_true_iff.mp h
  obtain ⟨h2, h⟩ := Bool.and_eq_true_iff.mp h
  obtain ⟨h3, h⟩ := Bool.and_eq_true_iff.mp h
  obtain ⟨h4, h⟩ := Bool.and_eq_true_iff.mp h
  obtain ⟨h5, h⟩ := Bool.and_eq_true_iff.mp h
  obtain ⟨h6, h⟩ := Bool.and_eq_true_iff.mp h
  obtain ⟨h7, h8⟩ := Bool.and_eq_true_iff.mp h
  exact ⟨⟨of_decide_eq_true h1, of_decide_eq_true h2, of_decide_eq_true h3, h4, of_decide_eq_true h5, of_decide_eq_true h6, of_decide_eq_true h7, of_decide_eq_true h8⟩, ⟨of_decide_eq_true h1, of_decide_eq_true h2, of_decide_eq_true h3, h4⟩⟩
/-- the tables of a law -/
structure Tabs where
  /-- errors: name, number, fields -/
  excs : List (Str × Nat × List Nat) := []
  /-- the base of the errors -/
  base : List Str := []
  /-- attributes: its number, instances' classes, errors' classes -/
  atts : List (Nat × List Nat × List Nat) := []
  isas : List (List (CTy × CTy × Bool) × List Nat × List Nat) := []
  /-- names of classes -/
  clss : List (Str × Nat) := []
def excB (K : PySem.W.Frag) (e : Str × Nat × List Nat) : Bool := decide (nm e.2.1 = e.1) && (xclsB K (He.ga K e.1) (He.ma K (He.ga K e.1) "__init__") && (e.2.2.all (fun f => decide (PySem.W.findIn K (.ref (He.ga K e.1)) (nm f) = some none)) && Nat.ble e.2.2.length 2))
def clsB3 (K : PySem.W.Frag) (C : Addr) : Bool := PySem.W.plainGet K C Str.empty && (PySem.W.hasDictIn K C && (PySem.W.plainOver K C && decide (PySem.W.findIn K (.ref C) "__setattr__" = some (some (.builtin "object.__setattr__")))))
theorem clsB3_ok {K : PySem.W.Frag} {C : Addr} (h : clsB3 K C = true) : Cls K C := by
  obtain ⟨h1, h⟩ := Bool.and_eq_true_iff.mp h
  obtain ⟨h2, h⟩ := Bool.and_eq_true_iff.mp h
  obtain ⟨h3, h4⟩ := Bool.and_eq_true_iff.mp h
  exact ⟨h1, h2, h3, of_decide_eq_true h4⟩
def attB (K : PySem.W.Frag) (e : Nat × List Nat × List Nat) : Bool := (e.2.1.all fun c => clsB3 K (He.ga K (nm c)) && decide (PySem.W.findIn K (.ref (He.ga K (nm c))) (nm e.1) = some none)) && (e.2.2.all fun c => excCB K (He.ga K (nm c)) && decide (PySem.W.findIn K (.ref (He.ga K (nm c))) (nm e.1) = some none))
def insIB (K : PySem.W.Frag) (C : Addr) : Bool := clsB3 K C && (decide (PySem.W.findIn K (.ref C) "__class__" = some (some (.builtin "object.__class__"))) && (decide (PySem.W.specialIn K (.builtin "object.__class__") "__get__" = some (some (.builtin "getset_descriptor.__get__"))) && (decide (PySem.W.takesIn K (.builtin "object.__class__") = some true) && decide (PySem.W.mroIn K C (.type "object") = some true))))
theorem insIB_ok {K : PySem.W.Frag} {C : Addr} (h : insIB K C = true) : InsI K C := by
  obtain ⟨h1, h⟩ := Bool.and_eq_true_iff.mp h
  obtain ⟨h2, h⟩ := Bool.and_eq_true_iff.mp h
  obtain ⟨h3, h⟩ := Bool.and_eq_true_iff.mp h
  obtain ⟨h4, h5⟩ := Bool.and_eq_true_iff.mp h
  exact ⟨clsB3_ok h1, of_decide_eq_true h2, of_decide_eq_true h3, of_decide_eq_true h4, of_decide_eq_true h5⟩
def isaB (K : PySem.W.Frag) (e : List (CTy × CTy × Bool) × List Nat × List Nat) : Bool := (e.1.all fun p => decide (PySem.W.kitOne K (ctV K p.1) (ctV K p.2.1) = some p.2.2)) && ((e.2.1.all fun c => insIB K (He.ga K (nm c))) && (e.2.2.all fun c => excCB K (He.ga K (nm c))))
def tabsB (T : Tabs) (K : PySem.W.Frag) : Bool := sysB K && (T.excs.all (excB K) && (T.base.all (fun x => xbaseB K (He.ga K x)) && (T.atts.all (attB K) && (T.isas.all (isaB K) && T.clss.all (fun e => decide (nm e.2 = e.1))))))
section
variable {T : Tabs} {K : PySem.W.Frag}
theorem tabs_sys (h : tabsB T K = true) : sysB K = true := (Bool.and_eq_true_iff.mp h).1
theorem tabs_exc (h : tabsB T K = true) (i : Nat) {x : Str} {c : Nat} {fs : List Nat} (e : T.excs[i]? = some (x, c, fs)) : nm c = x ∧ XCls K (He.ga K x) (He.ma K (He.ga K x) "__init__") ∧ (∀ f ∈ fs, PySem.W.findIn K (.ref (He.ga K x)) (nm f) = some none) ∧ fs.length ≤ 2 := by
  have h1 := (Bool.and_eq_true_iff.mp (Bool.and_eq_true_iff.mp h).2).1
  have h2 := List.all_eq_true.mp h1 _ (List.mem_of_getElem? e)
  obtain ⟨a1, a⟩ := Bool.and_eq_true_iff.mp h2
  obtain ⟨a2, a⟩ := Bool.and_eq_true_iff.mp a
  obtain ⟨a3, a4⟩ := Bool.and_eq_true_iff.mp a
  exact ⟨of_decide_eq_true a1, xclsB_ok a2, fun f hf => of_decide_eq_true (List.all_eq_true.mp a3 f hf), Nat.le_of_ble_eq_true a4⟩
theorem tabs_base (h : tabsB T K = true) (i : Nat) {x : Str} (e : T.base[i]? = some x) : XBase K (He.ga K x) := by
  have h1 := (Bool.and_eq_true_iff.mp (Bool.and_eq_true_iff.mp (Bool.and_eq_true_iff.mp h).2).2).1
  exact xbaseB_ok (List.all_eq_true.mp h1 _ (List.mem_of_getElem? e))
theorem tabs_att (h : tabsB T K = true) (i : Nat) {f : Nat} {ci cx : List Nat} (e : T.atts[i]? = some (f, ci, cx)) : (∀ c ∈ ci, InsF K f c) ∧ ∀ c ∈ cx, ExcF K f c := by
  have h1 := (Bool.and_eq_true_iff.mp (Bool.and_eq_true_iff.mp (Bool.and_eq_true_iff.mp (Bool.and_eq_true_iff.mp h).2).2).2).1
  have h2 := List.all_eq_true.mp h1 _ (List.mem_of_getElem? e)
  obtain ⟨a1, a2⟩ := Bool.and_eq_true_iff.mp h2
  refine ⟨fun c hc => ?_, fun c hc => ?_⟩
  · obtain ⟨b1, b2⟩ := Bool.and_eq_true_iff.mp (List.all_eq_true.mp a1 c hc)
    exact ⟨clsB3_ok b1, (of_decide_eq_true b2 : PySem.W.findIn K (.ref (He.ga K (nm c))) (nm f) = some none)⟩
  · obtain ⟨b1, b2⟩ := Bool.and_eq_true_iff.mp (List.all_eq_true.mp a2 c hc)
    exact ⟨(excCB_ok b1).2, of_decide_eq_true b2⟩
theorem tabs_isa (h : tabsB T K = true) (i : Nat) {tb : List (CTy × CTy × Bool)} {ci cx : List Nat} (e : T.isas[i]? = some (tb, ci, cx)) : (∀ e ∈ tb, PySem.W.kitOne K (ctV K e.1) (ctV K e.2.1) = some e.2.2) ∧ (∀ c ∈ ci, InsI K (He.ga K (nm c))) ∧ ∀ c ∈ cx, ExcC K (He.ga K (nm c)) := by
  have h1 := (Bool.and_eq_true_iff.mp (Bool.and_eq_true_iff.mp (Bool.and_eq_true_iff.mp (Bool.and_eq_true_iff.mp (Bool.and_eq_true_iff.mp h).2).2).2).2).1
  have h2 := List.all_eq_true.mp h1 _ (List.mem_of_getElem? e)
  obtain ⟨a1, a⟩ := Bool.and_eq_true_iff.mp h2
  obtain ⟨a2, a3⟩ := Bool.and_eq_true_iff.mp a
  exact ⟨fun e he => of_decide_eq_true (List.all_eq_true.mp a1 e he), fun c hc => insIB_ok (List.all_eq_true.mp a2 c hc), fun c hc => (excCB_ok (List.all_eq_true.mp a3 c hc)).1⟩
theorem tabs_cls (h : tabsB T K = true) (i : Nat) {x : Str} {c : Nat} (e : T.clss[i]? = some (x, c)) : nm c = x := by
  have h1 := (Bool.and_eq_true_iff.mp (Bool.and_eq_true_iff.mp (Bool.and_eq_true_iff.mp (Bool.and_eq_true_iff.mp (Bool.and_eq_true_iff.mp h).2).2).2).2).2
  exact of_decide_eq_true (List.all_eq_true.mp h1 _ (List.mem_of_getElem? e))
end
/-- what a law's head gives -/
structure Fct (fa : List He.Fa) (fn : List He.DefD) (T : Tabs) (K : PySem.W.Frag) (mg : Str → Option Value) (base : Heap) : Prop where
  c : He.SaysD fa fn K
  own : tabsB T K = true
  kin : K.In base
  ns : base.Ns mainGlobals mg
section
variable {fa : List He.Fa} {fn : List He.DefD} {T : Tabs} {K : PySem.W.Frag} {mg : Str → Option Value} {base : Heap}
theorem Fct.free (F : Fct fa fn T K mg base) (i : Nat) {x : Str} (h : fa[i]? = some (.free x) := by rfl) : mg x = none := He.free_ok F.kin F.ns (F.c.fact i h)
theorem Fct.glo (F : Fct fa fn T K mg base) (i : Nat) {x : Str} (h : fa[i]? = some (.glo x) := by rfl) : mg x = some (.ref (He.ga K x)) := He.glo_ok F.kin F.ns (F.c.fact i h)
theorem Fct.sys (F : Fct fa fn T K mg base) : SysD base := sysB_ok F.kin (tabs_sys F.own)
theorem Fct.cls (F : Fct fa fn T K mg base) (i j : Nat) {x : Str} {c : Nat} (h : fa[i]? = some (.glo x) := by rfl) (e : T.clss[j]? = some (x, c) := by rfl) : mg x = some (.ref (He.ga K (nm c))) := by
  rw [tabs_cls F.own j e]
  exact F.glo i h
theorem Fct.att (F : Fct fa fn T K mg base) (i : Nat) {f : Nat} {ci cx : List Nat} (e : T.atts[i]? = some (f, ci, cx) := by rfl) : (∀ c ∈ ci, InsF K f c) ∧ ∀ c ∈ cx, ExcF K f c := tabs_att F.own i e
theorem Fct.isa (F : Fct fa fn T K mg base) (i : Nat) {tb : List (CTy × CTy × Bool)} {ci cx : List Nat} (e : T.isas[i]? = some (tb, ci, cx) := by rfl) : (∀ e ∈ tb, PySem.W.kitOne K (ctV K e.1) (ctV K e.2.1) = some e.2.2) ∧ (∀ c ∈ ci, InsI K (He.ga K (nm c))) ∧ ∀ c ∈ cx, ExcC K (He.ga K (nm c)) := tabs_isa F.own i e
/-- an error's class from its __init__ -/
theorem Fct.mkr (F : Fct fa fn T K mg base) {P : Program} {w : World} {j : Nat} {fd : FuncData} {ps : List Str} (i g : Nat) {x : Str} {c : Nat} {fs : List Nat} (e : T.excs[i]? = some (x, c, fs)) (h : fa[g]? = some (.glo x)) (hb : Binds K fd ps []) (G : FnG P w K mg base j (He.ma K (He.ga K x) "__init__") fd ps (spX K (He.ga K x) (fs.map nm))) : MkO P w K mg base x j c fs := by
  obtain ⟨h1, h2, h3, h4⟩ := tabs_exc F.own i e
  subst h1
  exact ⟨⟨_, fd, ps, h2, h3, h4, F.glo g h, hb, G⟩⟩
end
end L3
/-! the text, the tables, the head (printed by pr3.py) -/
namespace L3
open PySem PySem.Spec PyProof.Rows L2
def top (i : Nat) : Stmt := PySem.Challenge.pw_bestlooks_k00_errors.main.body.getD i (.Pass ⟨0, 0, 0, 0⟩)
def dm (i : Nat) (j : Nat) : Stmt := inClass (top i) j
abbrev n_NotKept : Nat := 22077593455259764
abbrev n_witness : Nat := 33611471017833331
abbrev n_promise : Nat := 31651020294157157
abbrev n_BadName : Nat := 18684431902535013
abbrev n_NoName : Nat := 86239963344229
abbrev n_TakenName : Nat := 1556546318160225201509
abbrev n_name : Nat := 1851878757
abbrev n_BadNumber : Nat := 1224502929250433787250
abbrev n_Unlike : Nat := 93932753611621
abbrev n_what : Nat := 2003329396
abbrev n_BadInterval : Nat := 80249023609105843339288940
abbrev n_high : Nat := 1751738216
abbrev n_low : Nat := 7106423
abbrev n_BadRow : Nat := 72986062385015
abbrev n_row : Nat := 7499639
abbrev n_number : Nat := 121450625394034
abbrev n_BadText : Nat := 18684432003463284
abbrev n_BadLine : Nat := 18684431869505125
abbrev n_column : Nat := 109330212154734
abbrev n_line : Nat := 1818848869
abbrev n_NothingToRedo : Nat := 6214290240668840698195623634031
abbrev n_NothingToUndo : Nat := 6214290240668840698195674555503
abbrev n_LookError : Nat := 1409982304208567824242
def cxs : List Nat := [n_BadText, n_BadLine, n_BadNumber, n_BadRow, n_BadInterval, n_BadName, n_Unlike, n_NoName, n_TakenName, n_NotKept, n_NothingToUndo, n_NothingToRedo]
def tb_NothingToRedo : List (CTy × CTy × Bool) := [(.own n_BadText, .own n_NothingToRedo, false), (.own n_BadLine, .own n_NothingToRedo, false), (.own n_BadNumber, .own n_NothingToRedo, false), (.own n_BadRow, .own n_NothingToRedo, false), (.own n_BadInterval, .own n_NothingToRedo, false), (.own n_BadName, .own n_NothingToRedo, false), (.own n_Unlike, .own n_NothingToRedo, false), (.own n_NoName, .own n_NothingToRedo, false), (.own n_TakenName, .own n_NothingToRedo, false), (.own n_NotKept, .own n_NothingToRedo, false), (.own n_NothingToUndo, .own n_NothingToRedo, false), (.own n_NothingToRedo, .own n_NothingToRedo, true)]
def tb_NothingToUndo : List (CTy × CTy × Bool) := [(.own n_BadText, .own n_NothingToUndo, false), (.own n_BadLine, .own n_NothingToUndo, false), (.own n_BadNumber, .own n_NothingToUndo, false), (.own n_BadRow, .own n_NothingToUndo, false), (.own n_BadInterval, .own n_NothingToUndo, false), (.own n_BadName, .own n_NothingToUndo, false), (.own n_Unlike, .own n_NothingToUndo, false), (.own n_NoName, .own n_NothingToUndo, false), (.own n_TakenName, .own n_NothingToUndo, false), (.own n_NotKept, .own n_NothingToUndo, false), (.own n_NothingToUndo, .own n_NothingToUndo, true), (.own n_NothingToRedo, .own n_NothingToUndo, false)]
def tb_NotKept : List (CTy × CTy × Bool) := [(.own n_BadText, .own n_NotKept, false), (.own n_BadLine, .own n_NotKept, false), (.own n_BadNumber, .own n_NotKept, false), (.own n_BadRow, .own n_NotKept, false), (.own n_BadInterval, .own n_NotKept, false), (.own n_BadName, .own n_NotKept, false), (.own n_Unlike, .own n_NotKept, false), (.own n_NoName, .own n_NotKept, false), (.own n_TakenName, .own n_NotKept, false), (.own n_NotKept, .own n_NotKept, true), (.own n_NothingToUndo, .own n_NotKept, false), (.own n_NothingToRedo, .own n_NotKept, false)]
def tb_TakenName : List (CTy × CTy × Bool) := [(.own n_BadText, .own n_TakenName, false), (.own n_BadLine, .own n_TakenName, false), (.own n_BadNumber, .own n_TakenName, false), (.own n_BadRow, .own n_TakenName, false), (.own n_BadInterval, .own n_TakenName, false), (.own n_BadName, .own n_TakenName, false), (.own n_Unlike, .own n_TakenName, false), (.own n_NoName, .own n_TakenName, false), (.own n_TakenName, .own n_TakenName, true), (.own n_NotKept, .own n_TakenName, false), (.own n_NothingToUndo, .own n_TakenName, false), (.own n_NothingToRedo, .own n_TakenName, false)]
def tb_NoName : List (CTy × CTy × Bool) := [(.own n_BadText, .own n_NoName, false), (.own n_BadLine, .own n_NoName, false), (.own n_BadNumber, .own n_NoName, false), (.own n_BadRow, .own n_NoName, false), (.own n_BadInterval, .own n_NoName, false), (.own n_BadName, .own n_NoName, false), (.own n_Unlike, .own n_NoName, false), (.own n_NoName, .own n_NoName, true), (.own n_TakenName, .own n_NoName, false), (.own n_NotKept, .own n_NoName, false), (.own n_NothingToUndo, .own n_NoName, false), (.own n_NothingToRedo, .own n_NoName, false)]
def tb_Unlike : List (CTy × CTy × Bool) := [(.own n_BadText, .own n_Unlike, false), (.own n_BadLine, .own n_Unlike, false), (.own n_BadNumber, .own n_Unlike, false), (.own n_BadRow, .own n_Unlike, false), (.own n_BadInterval, .own n_Unlike, false), (.own n_BadName, .own n_Unlike, false), (.own n_Unlike, .own n_Unlike, true), (.own n_NoName, .own n_Unlike, false), (.own n_TakenName, .own n_Unlike, false), (.own n_NotKept, .own n_Unlike, false), (.own n_NothingToUndo, .own n_Unlike, false), (.own n_NothingToRedo, .own n_Unlike, false)]
def tb_BadName : List (CTy × CTy × Bool) := [(.own n_BadText, .own n_BadName, false), (.own n_BadLine, .own n_BadName, false), (.own n_BadNumber, .own n_BadName, false), (.own n_BadRow, .own n_BadName, false), (.own n_BadInterval, .own n_BadName, false), (.own n_BadName, .own n_BadName, true), (.own n_Unlike, .own n_BadName, false), (.own n_NoName, .own n_BadName, false), (.own n_TakenName, .own n_BadName, false), (.own n_NotKept, .own n_BadName, false), (.own n_NothingToUndo, .own n_BadName, false), (.own n_NothingToRedo, .own n_BadName, false)]
def tb_BadInterval : List (CTy × CTy × Bool) := [(.own n_BadText, .own n_BadInterval, false), (.own n_BadLine, .own n_BadInterval, false), (.own n_BadNumber, .own n_BadInterval, false), (.own n_BadRow, .own n_BadInterval, false), (.own n_BadInterval, .own n_BadInterval, true), (.own n_BadName, .own n_BadInterval, false), (.own n_Unlike, .own n_BadInterval, false), (.own n_NoName, .own n_BadInterval, false), (.own n_TakenName, .own n_BadInterval, false), (.own n_NotKept, .own n_BadInterval, false), (.own n_NothingToUndo, .own n_BadInterval, false), (.own n_NothingToRedo, .own n_BadInterval, false)]
def tb_BadRow : List (CTy × CTy × Bool) := [(.own n_BadText, .own n_BadRow, false), (.own n_BadLine, .own n_BadRow, false), (.own n_BadNumber, .own n_BadRow, false), (.own n_BadRow, .own n_BadRow, true), (.own n_BadInterval, .own n_BadRow, false), (.own n_BadName, .own n_BadRow, false), (.own n_Unlike, .own n_BadRow, false), (.own n_NoName, .own n_BadRow, false), (.own n_TakenName, .own n_BadRow, false), (.own n_NotKept, .own n_BadRow, false), (.own n_NothingToUndo, .own n_BadRow, false), (.own n_NothingToRedo, .own n_BadRow, false)]
def tb_BadNumber : List (CTy × CTy × Bool) := [(.own n_BadText, .own n_BadNumber, false), (.own n_BadLine, .own n_BadNumber, false), (.own n_BadNumber, .own n_BadNumber, true), (.own n_BadRow, .own n_BadNumber, false), (.own n_BadInterval, .own n_BadNumber, false), (.own n_BadName, .own n_BadNumber, false), (.own n_Unlike, .own n_BadNumber, false), (.own n_NoName, .own n_BadNumber, false), (.own n_TakenName, .own n_BadNumber, false), (.own n_NotKept, .own n_BadNumber, false), (.own n_NothingToUndo, .own n_BadNumber, false), (.own n_NothingToRedo, .own n_BadNumber, false)]
def tb_BadLine : List (CTy × CTy × Bool) := [(.own n_BadText, .own n_BadLine, false), (.own n_BadLine, .own n_BadLine, true), (.own n_BadNumber, .own n_BadLine, false), (.own n_BadRow, .own n_BadLine, false), (.own n_BadInterval, .own n_BadLine, false), (.own n_BadName, .own n_BadLine, false), (.own n_Unlike, .own n_BadLine, false), (.own n_NoName, .own n_BadLine, false), (.own n_TakenName, .own n_BadLine, false), (.own n_NotKept, .own n_BadLine, false), (.own n_NothingToUndo, .own n_BadLine, false), (.own n_NothingToRedo, .own n_BadLine, false)]
def tb_BadText : List (CTy × CTy × Bool) := [(.own n_BadText, .own n_BadText, true), (.own n_BadLine, .own n_BadText, false), (.own n_BadNumber, .own n_BadText, false), (.own n_BadRow, .own n_BadText, false), (.own n_BadInterval, .own n_BadText, false), (.own n_BadName, .own n_BadText, false), (.own n_Unlike, .own n_BadText, false), (.own n_NoName, .own n_BadText, false), (.own n_TakenName, .own n_BadText, false), (.own n_NotKept, .own n_BadText, false), (.own n_NothingToUndo, .own n_BadText, false), (.own n_NothingToRedo, .own n_BadText, false)]
def tb_ValueError : List (CTy × CTy × Bool) := [(.own n_BadText, .bi "ValueError", true), (.own n_BadLine, .bi "ValueError", true), (.own n_BadNumber, .bi "ValueError", true), (.own n_BadRow, .bi "ValueError", true), (.own n_BadInterval, .bi "ValueError", true), (.own n_BadName, .bi "ValueError", true), (.own n_Unlike, .bi "ValueError", true), (.own n_NoName, .bi "ValueError", true), (.own n_TakenName, .bi "ValueError", true), (.own n_NotKept, .bi "ValueError", true), (.own n_NothingToUndo, .bi "ValueError", true), (.own n_NothingToRedo, .bi "ValueError", true)]
def tb_LookError : List (CTy × CTy × Bool) := [(.own n_BadText, .own n_LookError, true), (.own n_BadLine, .own n_LookError, true), (.own n_BadNumber, .own n_LookError, true), (.own n_BadRow, .own n_LookError, true), (.own n_BadInterval, .own n_LookError, true), (.own n_BadName, .own n_LookError, true), (.own n_Unlike, .own n_LookError, true), (.own n_NoName, .own n_LookError, true), (.own n_TakenName, .own n_LookError, true), (.own n_NotKept, .own n_LookError, true), (.own n_NothingToUndo, .own n_LookError, true), (.own n_NothingToRedo, .own n_LookError, true)]
def fn : List He.DefD := [⟨("_law_fields", none), "_law_fields", "_law_fields", defArgs (top 21), defBody (top 21), defScope (top 21), [], []⟩, ⟨("_law_kinds", none), "_law_kinds", "_law_kinds", defArgs (top 19), defBody (top 19), defScope (top 19), [], []⟩, ⟨("NothingToRedo", some "__init__"), "__init__", "NothingToRedo.__init__", defArgs (dm 13 0), defBody (dm 13 0), defScope (dm 13 0), [], []⟩, ⟨("NothingToUndo", some "__init__"), "__init__", "NothingToUndo.__init__", defArgs (dm 12 0), defBody (dm 12 0), defScope (dm 12 0), [], []⟩, ⟨("NotKept", some "__init__"), "__init__", "NotKept.__init__", defArgs (dm 11 0), defBody (dm 11 0), defScope (dm 11 0), [], []⟩, ⟨("TakenName", some "__init__"), "__init__", "TakenName.__init__", defArgs (dm 10 0), defBody (dm 10 0), defScope (dm 10 0), [], []⟩, ⟨("NoName", some "__init__"), "__init__", "NoName.__init__", defArgs (dm 9 0), defBody (dm 9 0), defScope (dm 9 0), [], []⟩, ⟨("Unlike", some "__init__"), "__init__", "Unlike.__init__", defArgs (dm 8 0), defBody (dm 8 0), defScope (dm 8 0), [], []⟩, ⟨("BadName", some "__init__"), "__init__", "BadName.__init__", defArgs (dm 7 0), defBody (dm 7 0), defScope (dm 7 0), [], []⟩, ⟨("BadInterval", some "__init__"), "__init__", "BadInterval.__init__", defArgs (dm 6 0), defBody (dm 6 0), defScope (dm 6 0), [], []⟩, ⟨("BadRow", some "__init__"), "__init__", "BadRow.__init__", defArgs (dm 5 0), defBody (dm 5 0), defScope (dm 5 0), [], []⟩, ⟨("BadNumber", some "__init__"), "__init__", "BadNumber.__init__", defArgs (dm 4 0), defBody (dm 4 0), defScope (dm 4 0), [], []⟩, ⟨("BadLine", some "__init__"), "__init__", "BadLine.__init__", defArgs (dm 3 0), defBody (dm 3 0), defScope (dm 3 0), [], []⟩, ⟨("BadText", some "__init__"), "__init__", "BadText.__init__", defArgs (dm 2 0), defBody (dm 2 0), defScope (dm 2 0), [], []⟩, ⟨("_law_objects", none), "_law_objects", "_law_objects", defArgs (top 20), defBody (top 20), defScope (top 20), [], []⟩, ⟨("_law_draw", none), "_law_draw", "_law_draw", defArgs (top 16), defBody (top 16), defScope (top 16), [], []⟩, ⟨("_law_pick", none), "_law_pick", "_law_pick", defArgs (top 17), defBody (top 17), defScope (top 17), [], []⟩, ⟨("_law_far", none), "_law_far", "_law_far", defArgs (top 18), defBody (top 18), defScope (top 18), [], []⟩, ⟨("_law_pen", none), "_law_pen", "_law_pen", defArgs (top 15), defBody (top 15), defScope (top 15), [], []⟩, ⟨("law", none), "law", "law", defArgs (top 22), defBody (top 22), defScope (top 22), [], []⟩]
def fa : List He.Fa := [.glo "_law_fields", .free "zip", .free "repr", .free "enumerate", .free "isinstance", .glo "NothingToRedo", .glo "NothingToUndo", .glo "NotKept", .glo "TakenName", .glo "NoName", .glo "Unlike", .glo "BadName", .glo "BadInterval", .glo "BadRow", .glo "BadNumber", .glo "BadLine", .glo "BadText", .glo "_law_kinds", .free "len", .free "range", .free "ValueError", .glo "LookError", .glo "_law_objects", .free "int", .glo "_law_draw", .glo "_law_pick", .free "str", .glo "_law_far", .free "list", .glo "_law_pen", .glo "law"]
def T : Tabs where
  excs := [("NothingToRedo", n_NothingToRedo, []), ("NothingToUndo", n_NothingToUndo, []), ("NotKept", n_NotKept, [n_promise, n_witness]), ("TakenName", n_TakenName, [n_name]), ("NoName", n_NoName, [n_name]), ("Unlike", n_Unlike, [n_what]), ("BadName", n_BadName, [n_name]), ("BadInterval", n_BadInterval, [n_low, n_high]), ("BadRow", n_BadRow, [n_row]), ("BadNumber", n_BadNumber, [n_what, n_number]), ("BadLine", n_BadLine, [n_line, n_column]), ("BadText", n_BadText, [n_column])]
  base := ["LookError"]
  atts := [(n_witness, [], [n_NotKept]), (n_promise, [], [n_NotKept]), (n_name, [], [n_BadName, n_NoName, n_TakenName]), (n_what, [], [n_BadNumber, n_Unlike]), (n_high, [], [n_BadInterval]), (n_low, [], [n_BadInterval]), (n_row, [], [n_BadRow]), (n_number, [], [n_BadNumber]), (n_column, [], [n_BadText, n_BadLine]), (n_line, [], [n_BadLine])]
  isas := [(tb_NothingToRedo, [], cxs), (tb_NothingToUndo, [], cxs), (tb_NotKept, [], cxs), (tb_TakenName, [], cxs), (tb_NoName, [], cxs), (tb_Unlike, [], cxs), (tb_BadName, [], cxs), (tb_BadInterval, [], cxs), (tb_BadRow, [], cxs), (tb_BadNumber, [], cxs), (tb_BadLine, [], cxs), (tb_BadText, [], cxs), (tb_ValueError, [], cxs), (tb_LookError, [], cxs)]
  clss := [("NothingToRedo", n_NothingToRedo), ("NothingToUndo", n_NothingToUndo), ("NotKept", n_NotKept), ("TakenName", n_TakenName), ("NoName", n_NoName), ("Unlike", n_Unlike), ("BadName", n_BadName), ("BadInterval", n_BadInterval), ("BadRow", n_BadRow), ("BadNumber", n_BadNumber), ("BadLine", n_BadLine), ("BadText", n_BadText), ("LookError", n_LookError)]
def names : List PySem.Str := (["LookError", "BadText", "BadLine", "BadNumber", "BadRow", "BadInterval", "BadName", "Unlike", "NoName", "TakenName", "NotKept", "NothingToUndo", "NothingToRedo", "_law_pen", "_law_draw", "_law_pick", "_law_far", "_law_kinds", "_law_objects", "_law_fields"] : List PySem.Str)
abbrev R : PySem.W.OpenRow := PySem.W.OpenLaw.row PySem.Challenge.rw_bestlooks_k00_errors
abbrev hk : PySem.W.Hook := hookX 5 (tabsB T) fa fn
def ob (s : PySem.W.SharedT) : AlX := obsXG 5 (tabsB T) fa fn (HandSHeadRun.getT s)
theorem ob_eq (s : PySem.W.SharedT) : ob s = hk.obs s.abs := obsXG_eq (HandSHeadRun.getT_eq s)
theorem run (w : World) : HandSHeadRun.RunEq R (PySem.W.view R.prog [22]) hk ob 12000 names w := by
  intro os
  kernel_rfl
end L3
/-! the walk (printed by pr3.py) -/
namespace L3
open PySem PySem.Spec PyProof.Rows L2
section
variable {P : Program} {w : World} {K : PySem.W.Frag} {mg : Str → Option Value} {base : Heap}
def b__law_fields : SM := (sSeq (sAsg (.nm 1) (eA (newL false) (aC (eA (newL false) (aC (e1 (attrV n_column [] [n_BadText, n_BadLine]) (e2 subV (getV 0) (eC (.int 0)))) aN)) (aC (eA (newL false) (aC (e1 (attrV n_line [] [n_BadLine]) (e2 subV (getV 0) (eC (.int 1)))) (aC (e1 (attrV n_column [] [n_BadText, n_BadLine]) (e2 subV (getV 0) (eC (.int 1)))) aN))) (aC (eA (newL false) (aC (e1 (attrV n_what [] [n_BadNumber, n_Unlike]) (e2 subV (getV 0) (eC (.int 2)))) (aC (e1 (attrV n_number [] [n_BadNumber]) (e2 subV (getV 0) (eC (.int 2)))) aN))) (aC (eA (newL false) (aC (e1 (attrV n_row [] [n_BadRow]) (e2 subV (getV 0) (eC (.int 3)))) aN)) aN))))))
    (sSeq (sAsg (.nm 1) (e2 (binV .Add false) (getV 1) (eA (newL false) (aC (eA (newL false) (aC (e1 (attrV n_low [] [n_BadInterval]) (e2 subV (getV 0) (eC (.int 4)))) (aC (e1 (attrV n_high [] [n_BadInterval]) (e2 subV (getV 0) (eC (.int 4)))) aN))) (aC (eA (newL false) (aC (e1 (attrV n_name [] [n_BadName, n_NoName, n_TakenName]) (e2 subV (getV 0) (eC (.int 5)))) aN)) (aC (eA (newL false) (aC (e1 (attrV n_what [] [n_BadNumber, n_Unlike]) (e2 subV (getV 0) (eC (.int 6)))) aN)) (aC (eA (newL false) (aC (e1 (attrV n_name [] [n_BadName, n_NoName, n_TakenName]) (e2 subV (getV 0) (eC (.int 7)))) aN)) (aC (eA (newL false) (aC (e1 (attrV n_name [] [n_BadName, n_NoName, n_TakenName]) (e2 subV (getV 0) (eC (.int 8)))) aN)) aN))))))))
    (sSeq (sRet (e2 (binV .Add false) (getV 1) (eA (newL false) (aC (eA (newL false) (aC (e1 (attrV n_promise [] [n_NotKept]) (e2 subV (getV 0) (eC (.int 9)))) (aC (e1 (attrV n_witness [] [n_NotKept]) (e2 subV (getV 0) (eC (.int 9)))) aN))) (aC (eA (newL false) aN) (aC (eA (newL false) aN) aN))))))
    sSkip)))
def m__law_fields : List PV → M PV := runBody false 1 2 b__law_fields
theorem g__law_fields (F : Fct fa fn T K mg base) : ∃ fd, FunD K "_law_fields" "_law_fields" (defArgs (top 21)) (defBody (top 21)) (defScope (top 21)) [] [] (He.ga K "_law_fields") fd ∧ FnG P w K mg base 1 (He.ga K "_law_fields") fd ["_law_row"] (spOf K m__law_fields) := by
  obtain ⟨fd, D⟩ := F.c.def_ 0 rfl
  refine ⟨fd, D, fnM (k := 0) (N := ["_law_row", "_law_first"]) (ps := ["_law_row"]) (b := b__law_fields) false D ⟨rfl, rfl, rfl, by decide +kernel, rfl, by decide +kernel, by decide +kernel⟩ fun cdv A outer s H E G hp => ?_⟩
  exact (ssc (sas G (gn 1) (xlst false (ac (xlst false (ac (xatt n_column [] [n_BadText, n_BadLine] (F.att 8).1 (F.att 8).2 (xsubs G (xv 0) xi)) an)) (ac (xlst false (ac (xatt n_line [] [n_BadLine] (F.att 9).1 (F.att 9).2 (xsubs G (xv 0) xi)) (ac (xatt n_column [] [n_BadText, n_BadLine] (F.att 8).1 (F.att 8).2 (xsubs G (xv 0) xi)) an))) (ac (xlst false (ac (xatt n_what [] [n_BadNumber, n_Unlike] (F.att 3).1 (F.att 3).2 (xsubs G (xv 0) xi)) (ac (xatt n_number [] [n_BadNumber] (F.att 7).1 (F.att 7).2 (xsubs G (xv 0) xi)) an))) (ac (xlst false (ac (xatt n_row [] [n_BadRow] (F.att 6).1 (F.att 6).2 (xsubs G (xv 0) xi)) an)) an))))))
    (ssc (sas G (gn 1) (xadd false (xv 1) (xlst false (ac (xlst false (ac (xatt n_low [] [n_BadInterval] (F.att 5).1 (F.att 5).2 (xsubs G (xv 0) xi)) (ac (xatt n_high [] [n_BadInterval] (F.att 4).1 (F.att 4).2 (xsubs G (xv 0) xi)) an))) (ac (xlst false (ac (xatt n_name [] [n_BadName, n_NoName, n_TakenName] (F.att 2).1 (F.att 2).2 (xsubs G (xv 0) xi)) an)) (ac (xlst false (ac (xatt n_what [] [n_BadNumber, n_Unlike] (F.att 3).1 (F.att 3).2 (xsubs G (xv 0) xi)) an)) (ac (xlst false (ac (xatt n_name [] [n_BadName, n_NoName, n_TakenName] (F.att 2).1 (F.att 2).2 (xsubs G (xv 0) xi)) an)) (ac (xlst false (ac (xatt n_name [] [n_BadName, n_NoName, n_TakenName] (F.att 2).1 (F.att 2).2 (xsubs G (xv 0) xi)) an)) an))))))))
    (ssc (srt (xadd false (xv 1) (xlst false (ac (xlst false (ac (xatt n_promise [] [n_NotKept] (F.att 1).1 (F.att 1).2 (xsubs G (xv 0) xi)) (ac (xatt n_witness [] [n_NotKept] (F.att 0).1 (F.att 0).2 (xsubs G (xv 0) xi)) an))) (ac (xlst false an) (ac (xlst false an) an))))))
    ssn)))
theorem o__law_fields (F : Fct fa fn T K mg base) : CallO P w K mg base "_law_fields" 1 m__law_fields := by
  obtain ⟨fd, D, g⟩ := g__law_fields (P := P) (w := w) F
  exact callO D (F.glo 0) g fun _ _ _ _ _ _ us hl => match us, hl with | [_], _ => rfl

def b__law_kinds : SM := (sSeq (sAsg (.nm 1) (eA (newL false) (aC (eA (two2 (isiV tb_BadText [] cxs)) (aC (getV 0) (aC (eC (.cls n_BadText)) aN))) (aC (eA (two2 (isiV tb_BadLine [] cxs)) (aC (getV 0) (aC (eC (.cls n_BadLine)) aN))) (aC (eA (two2 (isiV tb_BadNumber [] cxs)) (aC (getV 0) (aC (eC (.cls n_BadNumber)) aN))) (aC (eA (two2 (isiV tb_BadRow [] cxs)) (aC (getV 0) (aC (eC (.cls n_BadRow)) aN))) aN))))))
    (sSeq (sAsg (.nm 1) (e2 (binV .Add false) (getV 1) (eA (newL false) (aC (eA (two2 (isiV tb_BadInterval [] cxs)) (aC (getV 0) (aC (eC (.cls n_BadInterval)) aN))) (aC (eA (two2 (isiV tb_BadName [] cxs)) (aC (getV 0) (aC (eC (.cls n_BadName)) aN))) (aC (eA (two2 (isiV tb_Unlike [] cxs)) (aC (getV 0) (aC (eC (.cls n_Unlike)) aN))) (aC (eA (two2 (isiV tb_NoName [] cxs)) (aC (getV 0) (aC (eC (.cls n_NoName)) aN))) aN)))))))
    (sSeq (sAsg (.nm 1) (e2 (binV .Add false) (getV 1) (eA (newL false) (aC (eA (two2 (isiV tb_TakenName [] cxs)) (aC (getV 0) (aC (eC (.cls n_TakenName)) aN))) (aC (eA (two2 (isiV tb_NotKept [] cxs)) (aC (getV 0) (aC (eC (.cls n_NotKept)) aN))) aN)))))
    (sSeq (sRet (e2 (binV .Add false) (getV 1) (eA (newL false) (aC (eA (two2 (isiV tb_NothingToUndo [] cxs)) (aC (getV 0) (aC (eC (.cls n_NothingToUndo)) aN))) (aC (eA (two2 (isiV tb_NothingToRedo [] cxs)) (aC (getV 0) (aC (eC (.cls n_NothingToRedo)) aN))) aN)))))
    sSkip))))
def m__law_kinds : List PV → M PV := runBody false 1 2 b__law_kinds
theorem g__law_kinds (F : Fct fa fn T K mg base) : ∃ fd, FunD K "_law_kinds" "_law_kinds" (defArgs (top 19)) (defBody (top 19)) (defScope (top 19)) [] [] (He.ga K "_law_kinds") fd ∧ FnG P w K mg base 1 (He.ga K "_law_kinds") fd ["_law_e"] (spOf K m__law_kinds) := by
  obtain ⟨fd, D⟩ := F.c.def_ 1 rfl
  refine ⟨fd, D, fnM (k := 0) (N := ["_law_e", "_law_first"]) (ps := ["_law_e"]) (b := b__law_kinds) false D ⟨rfl, rfl, rfl, by decide +kernel, rfl, by decide +kernel, by decide +kernel⟩ fun cdv A outer s H E G hp => ?_⟩
  exact (ssc (sas G (gn 1) (xlst false (ac (xisi (F.free 4) tb_BadText [] cxs (F.isa 11).1 (F.isa 11).2.1 (F.isa 11).2.2 (ac (xv 0) (ac (xcls n_BadText (F.cls 16 11)) an))) (ac (xisi (F.free 4) tb_BadLine [] cxs (F.isa 10).1 (F.isa 10).2.1 (F.isa 10).2.2 (ac (xv 0) (ac (xcls n_BadLine (F.cls 15 10)) an))) (ac (xisi (F.free 4) tb_BadNumber [] cxs (F.isa 9).1 (F.isa 9).2.1 (F.isa 9).2.2 (ac (xv 0) (ac (xcls n_BadNumber (F.cls 14 9)) an))) (ac (xisi (F.free 4) tb_BadRow [] cxs (F.isa 8).1 (F.isa 8).2.1 (F.isa 8).2.2 (ac (xv 0) (ac (xcls n_BadRow (F.cls 13 8)) an))) an))))))
    (ssc (sas G (gn 1) (xadd false (xv 1) (xlst false (ac (xisi (F.free 4) tb_BadInterval [] cxs (F.isa 7).1 (F.isa 7).2.1 (F.isa 7).2.2 (ac (xv 0) (ac (xcls n_BadInterval (F.cls 12 7)) an))) (ac (xisi (F.free 4) tb_BadName [] cxs (F.isa 6).1 (F.isa 6).2.1 (F.isa 6).2.2 (ac (xv 0) (ac (xcls n_BadName (F.cls 11 6)) an))) (ac (xisi (F.free 4) tb_Unlike [] cxs (F.isa 5).1 (F.isa 5).2.1 (F.isa 5).2.2 (ac (xv 0) (ac (xcls n_Unlike (F.cls 10 5)) an))) (ac (xisi (F.free 4) tb_NoName [] cxs (F.isa 4).1 (F.isa 4).2.1 (F.isa 4).2.2 (ac (xv 0) (ac (xcls n_NoName (F.cls 9 4)) an))) an)))))))
    (ssc (sas G (gn 1) (xadd false (xv 1) (xlst false (ac (xisi (F.free 4) tb_TakenName [] cxs (F.isa 3).1 (F.isa 3).2.1 (F.isa 3).2.2 (ac (xv 0) (ac (xcls n_TakenName (F.cls 8 3)) an))) (ac (xisi (F.free 4) tb_NotKept [] cxs (F.isa 2).1 (F.isa 2).2.1 (F.isa 2).2.2 (ac (xv 0) (ac (xcls n_NotKept (F.cls 7 2)) an))) an)))))
    (ssc (srt (xadd false (xv 1) (xlst false (ac (xisi (F.free 4) tb_NothingToUndo [] cxs (F.isa 1).1 (F.isa 1).2.1 (F.isa 1).2.2 (ac (xv 0) (ac (xcls n_NothingToUndo (F.cls 6 1)) an))) (ac (xisi (F.free 4) tb_NothingToRedo [] cxs (F.isa 0).1 (F.isa 0).2.1 (F.isa 0).2.2 (ac (xv 0) (ac (xcls n_NothingToRedo (F.cls 5 0)) an))) an)))))
    ssn))))
theorem o__law_kinds (F : Fct fa fn T K mg base) : CallO P w K mg base "_law_kinds" 1 m__law_kinds := by
  obtain ⟨fd, D, g⟩ := g__law_kinds (P := P) (w := w) F
  exact callO D (F.glo 17) g fun _ _ _ _ _ _ us hl => match us, hl with | [_], _ => rfl

theorem k_NothingToRedo (F : Fct fa fn T K mg base) : MkO P w K mg base "NothingToRedo" 1 n_NothingToRedo [] := by
  obtain ⟨fd, D⟩ := F.c.def_ 2 rfl
  refine F.mkr 0 5 rfl rfl (D.bindsN (ps := ["self"]) fun _ _ _ _ _ _ us hl => match us, hl with | [_], _ => rfl) ?_
  refine fnG (k := 0) (N := ["self"]) D ⟨rfl, rfl, rfl, by decide +kernel, rfl, by decide +kernel, by decide +kernel⟩ (fun vs H Q E h => spX_len h) fun cdv A outer s H vs Q E G hp hsp => ⟨tX0 K "There is no edit to redo.", ?_, x0_pure hsp⟩
  exact pss_one (ps_expr (pe_ownInit rfl (F.glo 21) (tabs_base F.own 0 rfl) (pa_cons (pv 0) (pa_cons pe_str pa_nil)) (by decide)))

theorem k_NothingToUndo (F : Fct fa fn T K mg base) : MkO P w K mg base "NothingToUndo" 1 n_NothingToUndo [] := by
  obtain ⟨fd, D⟩ := F.c.def_ 3 rfl
  refine F.mkr 1 6 rfl rfl (D.bindsN (ps := ["self"]) fun _ _ _ _ _ _ us hl => match us, hl with | [_], _ => rfl) ?_
  refine fnG (k := 0) (N := ["self"]) D ⟨rfl, rfl, rfl, by decide +kernel, rfl, by decide +kernel, by decide +kernel⟩ (fun vs H Q E h => spX_len h) fun cdv A outer s H vs Q E G hp hsp => ⟨tX0 K "There is no edit to undo.", ?_, x0_pure hsp⟩
  exact pss_one (ps_expr (pe_ownInit rfl (F.glo 21) (tabs_base F.own 0 rfl) (pa_cons (pv 0) (pa_cons pe_str pa_nil)) (by decide)))

theorem k_NotKept (F : Fct fa fn T K mg base) : MkO P w K mg base "NotKept" 1 n_NotKept [n_promise, n_witness] := by
  obtain ⟨fd, D⟩ := F.c.def_ 4 rfl
  refine F.mkr 2 7 rfl rfl (D.bindsN (ps := ["self", "promise", "witness"]) fun _ _ _ _ _ _ us hl => match us, hl with | [_, _, _], _ => rfl) ?_
  refine fnG (k := 0) (N := ["self", "promise", "witness"]) D ⟨rfl, rfl, rfl, by decide +kernel, rfl, by decide +kernel, by decide +kernel⟩ (fun vs H Q E h => spX_len h) fun cdv A outer s H vs Q E G hp hsp => ⟨tX2 K "A promise that does not hold." "promise" "witness", ?_, x2_pure hsp⟩
  exact pss_cons (ps_expr (pe_ownInit rfl (F.glo 21) (tabs_base F.own 0 rfl) (pa_cons (pv 0) (pa_cons pe_str pa_nil)) (by decide))) (pss_cons (ps_ost (pv 0) (pv 1)) (pss_one (ps_ost (pv 0) (pv 2))))

theorem k_TakenName (F : Fct fa fn T K mg base) : MkO P w K mg base "TakenName" 1 n_TakenName [n_name] := by
  obtain ⟨fd, D⟩ := F.c.def_ 5 rfl
  refine F.mkr 3 8 rfl rfl (D.bindsN (ps := ["self", "name"]) fun _ _ _ _ _ _ us hl => match us, hl with | [_, _], _ => rfl) ?_
  refine fnG (k := 0) (N := ["self", "name"]) D ⟨rfl, rfl, rfl, by decide +kernel, rfl, by decide +kernel, by decide +kernel⟩ (fun vs H Q E h => spX_len h) fun cdv A outer s H vs Q E G hp hsp => ⟨tX1 K "The name stands already." "name", ?_, x1_pure hsp⟩
  exact pss_cons (ps_expr (pe_ownInit rfl (F.glo 21) (tabs_base F.own 0 rfl) (pa_cons (pv 0) (pa_cons pe_str pa_nil)) (by decide))) (pss_one (ps_ost (pv 0) (pv 1)))

theorem k_NoName (F : Fct fa fn T K mg base) : MkO P w K mg base "NoName" 1 n_NoName [n_name] := by
  obtain ⟨fd, D⟩ := F.c.def_ 6 rfl
  refine F.mkr 4 9 rfl rfl (D.bindsN (ps := ["self", "name"]) fun _ _ _ _ _ _ us hl => match us, hl with | [_, _], _ => rfl) ?_
  refine fnG (k := 0) (N := ["self", "name"]) D ⟨rfl, rfl, rfl, by decide +kernel, rfl, by decide +kernel, by decide +kernel⟩ (fun vs H Q E h => spX_len h) fun cdv A outer s H vs Q E G hp hsp => ⟨tX1 K "Nothing has this name." "name", ?_, x1_pure hsp⟩
  exact pss_cons (ps_expr (pe_ownInit rfl (F.glo 21) (tabs_base F.own 0 rfl) (pa_cons (pv 0) (pa_cons pe_str pa_nil)) (by decide))) (pss_one (ps_ost (pv 0) (pv 1)))

theorem k_Unlike (F : Fct fa fn T K mg base) : MkO P w K mg base "Unlike" 1 n_Unlike [n_what] := by
  obtain ⟨fd, D⟩ := F.c.def_ 7 rfl
  refine F.mkr 5 10 rfl rfl (D.bindsN (ps := ["self", "what"]) fun _ _ _ _ _ _ us hl => match us, hl with | [_, _], _ => rfl) ?_
  refine fnG (k := 0) (N := ["self", "what"]) D ⟨rfl, rfl, rfl, by decide +kernel, rfl, by decide +kernel, by decide +kernel⟩ (fun vs H Q E h => spX_len h) fun cdv A outer s H vs Q E G hp hsp => ⟨tX1 K "Things that do not fit together." "what", ?_, x1_pure hsp⟩
  exact pss_cons (ps_expr (pe_ownInit rfl (F.glo 21) (tabs_base F.own 0 rfl) (pa_cons (pv 0) (pa_cons pe_str pa_nil)) (by decide))) (pss_one (ps_ost (pv 0) (pv 1)))

theorem k_BadName (F : Fct fa fn T K mg base) : MkO P w K mg base "BadName" 1 n_BadName [n_name] := by
  obtain ⟨fd, D⟩ := F.c.def_ 8 rfl
  refine F.mkr 6 11 rfl rfl (D.bindsN (ps := ["self", "name"]) fun _ _ _ _ _ _ us hl => match us, hl with | [_, _], _ => rfl) ?_
  refine fnG (k := 0) (N := ["self", "name"]) D ⟨rfl, rfl, rfl, by decide +kernel, rfl, by decide +kernel, by decide +kernel⟩ (fun vs H Q E h => spX_len h) fun cdv A outer s H vs Q E G hp hsp => ⟨tX1 K "A name that is not allowed here." "name", ?_, x1_pure hsp⟩
  exact pss_cons (ps_expr (pe_ownInit rfl (F.glo 21) (tabs_base F.own 0 rfl) (pa_cons (pv 0) (pa_cons pe_str pa_nil)) (by decide))) (pss_one (ps_ost (pv 0) (pv 1)))

theorem k_BadInterval (F : Fct fa fn T K mg base) : MkO P w K mg base "BadInterval" 1 n_BadInterval [n_low, n_high] := by
  obtain ⟨fd, D⟩ := F.c.def_ 9 rfl
  refine F.mkr 7 12 rfl rfl (D.bindsN (ps := ["self", "low", "high"]) fun _ _ _ _ _ _ us hl => match us, hl with | [_, _, _], _ => rfl) ?_
  refine fnG (k := 0) (N := ["self", "low", "high"]) D ⟨rfl, rfl, rfl, by decide +kernel, rfl, by decide +kernel, by decide +kernel⟩ (fun vs H Q E h => spX_len h) fun cdv A outer s H vs Q E G hp hsp => ⟨tX2 K "Two values that are no ends of an interval." "low" "high", ?_, x2_pure hsp⟩
  exact pss_cons (ps_expr (pe_ownInit rfl (F.glo 21) (tabs_base F.own 0 rfl) (pa_cons (pv 0) (pa_cons pe_str pa_nil)) (by decide))) (pss_cons (ps_ost (pv 0) (pv 1)) (pss_one (ps_ost (pv 0) (pv 2))))

theorem k_BadRow (F : Fct fa fn T K mg base) : MkO P w K mg base "BadRow" 1 n_BadRow [n_row] := by
  obtain ⟨fd, D⟩ := F.c.def_ 10 rfl
  refine F.mkr 8 13 rfl rfl (D.bindsN (ps := ["self", "row"]) fun _ _ _ _ _ _ us hl => match us, hl with | [_, _], _ => rfl) ?_
  refine fnG (k := 0) (N := ["self", "row"]) D ⟨rfl, rfl, rfl, by decide +kernel, rfl, by decide +kernel, by decide +kernel⟩ (fun vs H Q E h => spX_len h) fun cdv A outer s H vs Q E G hp hsp => ⟨tX1 K "A value that is no such row." "row", ?_, x1_pure hsp⟩
  exact pss_cons (ps_expr (pe_ownInit rfl (F.glo 21) (tabs_base F.own 0 rfl) (pa_cons (pv 0) (pa_cons pe_str pa_nil)) (by decide))) (pss_one (ps_ost (pv 0) (pv 1)))

theorem k_BadNumber (F : Fct fa fn T K mg base) : MkO P w K mg base "BadNumber" 1 n_BadNumber [n_what, n_number] := by
  obtain ⟨fd, D⟩ := F.c.def_ 11 rfl
  refine F.mkr 9 14 rfl rfl (D.bindsN (ps := ["self", "what", "number"]) fun _ _ _ _ _ _ us hl => match us, hl with | [_, _, _], _ => rfl) ?_
  refine fnG (k := 0) (N := ["self", "what", "number"]) D ⟨rfl, rfl, rfl, by decide +kernel, rfl, by decide +kernel, by decide +kernel⟩ (fun vs H Q E h => spX_len h) fun cdv A outer s H vs Q E G hp hsp => ⟨tX2 K "A number that is not allowed." "what" "number", ?_, x2_pure hsp⟩
  exact pss_cons (ps_expr (pe_ownInit rfl (F.glo 21) (tabs_base F.own 0 rfl) (pa_cons (pv 0) (pa_cons pe_str pa_nil)) (by decide))) (pss_cons (ps_ost (pv 0) (pv 1)) (pss_one (ps_ost (pv 0) (pv 2))))

theorem k_BadLine (F : Fct fa fn T K mg base) : MkO P w K mg base "BadLine" 1 n_BadLine [n_line, n_column] := by
  obtain ⟨fd, D⟩ := F.c.def_ 12 rfl
  refine F.mkr 10 15 rfl rfl (D.bindsN (ps := ["self", "line", "column"]) fun _ _ _ _ _ _ us hl => match us, hl with | [_, _, _], _ => rfl) ?_
  refine fnG (k := 0) (N := ["self", "line", "column"]) D ⟨rfl, rfl, rfl, by decide +kernel, rfl, by decide +kernel, by decide +kernel⟩ (fun vs H Q E h => spX_len h) fun cdv A outer s H vs Q E G hp hsp => ⟨tX2 K "A line that is not in the described form." "line" "column", ?_, x2_pure hsp⟩
  exact pss_cons (ps_expr (pe_ownInit rfl (F.glo 21) (tabs_base F.own 0 rfl) (pa_cons (pv 0) (pa_cons pe_str pa_nil)) (by decide))) (pss_cons (ps_ost (pv 0) (pv 1)) (pss_one (ps_ost (pv 0) (pv 2))))

theorem k_BadText (F : Fct fa fn T K mg base) : MkO P w K mg base "BadText" 1 n_BadText [n_column] := by
  obtain ⟨fd, D⟩ := F.c.def_ 13 rfl
  refine F.mkr 11 16 rfl rfl (D.bindsN (ps := ["self", "column"]) fun _ _ _ _ _ _ us hl => match us, hl with | [_, _], _ => rfl) ?_
  refine fnG (k := 0) (N := ["self", "column"]) D ⟨rfl, rfl, rfl, by decide +kernel, rfl, by decide +kernel, by decide +kernel⟩ (fun vs H Q E h => spX_len h) fun cdv A outer s H vs Q E G hp hsp => ⟨tX1 K "A text that is not in the described form." "column", ?_, x1_pure hsp⟩
  exact pss_cons (ps_expr (pe_ownInit rfl (F.glo 21) (tabs_base F.own 0 rfl) (pa_cons (pv 0) (pa_cons pe_str pa_nil)) (by decide))) (pss_one (ps_ost (pv 0) (pv 1)))

def b__law_objects : SM := (sSeq (sAsg (.nm 2) (eA (newL false) (aC (eA (mkX n_BadText [n_column]) (aC (getV 0) aN)) (aC (eA (mkX n_BadLine [n_line, n_column]) (aC (getV 0) (aC (getV 1) aN))) (aC (eA (mkX n_BadNumber [n_what, n_number]) (aC (getV 0) (aC (getV 1) aN))) (aC (eA (mkX n_BadRow [n_row]) (aC (getV 0) aN)) (aC (eA (mkX n_BadInterval [n_low, n_high]) (aC (getV 0) (aC (getV 1) aN))) (aC (eA (mkX n_BadName [n_name]) (aC (getV 0) aN)) (aC (eA (mkX n_Unlike [n_what]) (aC (getV 0) aN)) (aC (eA (mkX n_NoName [n_name]) (aC (getV 0) aN)) aN))))))))))
    (sSeq (sRet (e2 (binV .Add false) (getV 2) (eA (newL false) (aC (eA (mkX n_TakenName [n_name]) (aC (getV 0) aN)) (aC (eA (mkX n_NotKept [n_promise, n_witness]) (aC (getV 0) (aC (getV 1) aN))) (aC (fun _ => mkX n_NothingToUndo [] []) (aC (fun _ => mkX n_NothingToRedo [] []) aN)))))))
    sSkip))
def m__law_objects : List PV → M PV := runBody false 2 3 b__law_objects
theorem g__law_objects (F : Fct fa fn T K mg base) : ∃ fd, FunD K "_law_objects" "_law_objects" (defArgs (top 20)) (defBody (top 20)) (defScope (top 20)) [] [] (He.ga K "_law_objects") fd ∧ FnG P w K mg base 3 (He.ga K "_law_objects") fd ["_law_a", "_law_b"] (spOf K m__law_objects) := by
  obtain ⟨fd, D⟩ := F.c.def_ 14 rfl
  refine ⟨fd, D, fnM (k := 2) (N := ["_law_a", "_law_b", "_law_first"]) (ps := ["_law_a", "_law_b"]) (b := b__law_objects) false D ⟨rfl, rfl, rfl, by decide +kernel, rfl, by decide +kernel, by decide +kernel⟩ fun cdv A outer s H E G hp => ?_⟩
  exact (ssc (sas G (gn 2) (xlst false (ac (xmk (k_BadText F) G (by decide) (ac (xv 0) an)) (ac (xmk (k_BadLine F) G (by decide) (ac (xv 0) (ac (xv 1) an))) (ac (xmk (k_BadNumber F) G (by decide) (ac (xv 0) (ac (xv 1) an))) (ac (xmk (k_BadRow F) G (by decide) (ac (xv 0) an)) (ac (xmk (k_BadInterval F) G (by decide) (ac (xv 0) (ac (xv 1) an))) (ac (xmk (k_BadName F) G (by decide) (ac (xv 0) an)) (ac (xmk (k_Unlike F) G (by decide) (ac (xv 0) an)) (ac (xmk (k_NoName F) G (by decide) (ac (xv 0) an)) an))))))))))
    (ssc (srt (xadd false (xv 2) (xlst false (ac (xmk (k_TakenName F) G (by decide) (ac (xv 0) an)) (ac (xmk (k_NotKept F) G (by decide) (ac (xv 0) (ac (xv 1) an))) (ac (xmk0 (k_NothingToUndo F) G (by decide)) (ac (xmk0 (k_NothingToRedo F) G (by decide)) an)))))))
    ssn))
theorem o__law_objects (F : Fct fa fn T K mg base) : CallO P w K mg base "_law_objects" 3 m__law_objects := by
  obtain ⟨fd, D, g⟩ := g__law_objects (P := P) (w := w) F
  exact callO D (F.glo 22) g fun _ _ _ _ _ _ us hl => match us, hl with | [_, _], _ => rfl

def b__law_draw : SM := (sSeq (sSub (getV 0) (eC (.str "count")) (e2 (binV .Add false) (e2 subV (getV 0) (eC (.str "count"))) (eC (.int 1))))
    (sSeq (sIf (tAndM (tCmpM .Eq (e2 subV (getV 0) (eC (.str "digits"))) (eC (.int 0))) (tCmpM .Lt (e2 subV (getV 0) (eC (.str "at"))) (eA (one1 lenV) (aC (e2 subV (getV 0) (eC (.str "cells"))) aN)))) (sSeq (sAsg (.nm 3) (e2 subV (e2 subV (getV 0) (eC (.str "cells"))) (e2 subV (getV 0) (eC (.str "at")))))
    (sSeq (sSub (getV 0) (eC (.str "at")) (e2 (binV .Add false) (e2 subV (getV 0) (eC (.str "at"))) (eC (.int 1))))
    (sSeq (sIf (tCmpM .GtE (getV 3) (e2 (binV .Pow false) (eC (.int 10)) (eC (.int 18)))) (sSeq (sSub (getV 0) (eC (.str "digits")) (e2 (binV .Sub false) (getV 3) (e2 (binV .Pow false) (eC (.int 10)) (eC (.int 18)))))
    sSkip) (sSeq (sSub (getV 0) (eC (.str "fold")) (e2 (binV .Mod false) (eA (one1 intV) (aC (e2 (binV .Add false) (e2 (binV .Mult false) (e2 subV (getV 0) (eC (.str "fold"))) (eC (.int 69069))) (getV 3)) aN)) (eC (.int 2147483587))))
    sSkip))
    sSkip))) sSkip)
    (sSeq (sIf (tCmpM .Gt (e2 subV (getV 0) (eC (.str "digits"))) (eC (.int 0))) (sSeq (sAsg (.nm 4) (e2 (binV .Mod false) (eA (one1 intV) (aC (e2 subV (getV 0) (eC (.str "digits"))) aN)) (getV 1)))
    (sSeq (sSub (getV 0) (eC (.str "digits")) (e2 (binV .FloorDiv false) (e2 subV (getV 0) (eC (.str "digits"))) (getV 1)))
    (sSeq (sRet (getV 4))
    sSkip))) sSkip)
    (sSeq (sAsg (.nm 2) (e2 (binV .Add false) (e2 (binV .Add false) (e2 subV (getV 0) (eC (.str "fold"))) (e2 (binV .Mult false) (e2 subV (getV 0) (eC (.str "count"))) (eC (.int 7907)))) (eC (.int 43))))
    (sSeq (sRet (e2 (binV .Mod false) (e2 (binV .FloorDiv false) (eA (one1 intV) (aC (e2 (binV .Mod false) (e2 (binV .Pow false) (getV 2) (eC (.int 17))) (eC (.int 2305843009213693951))) aN)) (eC (.int 128))) (getV 1)))
    sSkip)))))
def m__law_draw : List PV → M PV := runBody false 2 5 b__law_draw
theorem g__law_draw (F : Fct fa fn T K mg base) : ∃ fd, FunD K "_law_draw" "_law_draw" (defArgs (top 16)) (defBody (top 16)) (defScope (top 16)) [] [] (He.ga K "_law_draw") fd ∧ FnG P w K mg base 1 (He.ga K "_law_draw") fd ["_law_pen_here", "_law_many"] (spOf K m__law_draw) := by
  obtain ⟨fd, D⟩ := F.c.def_ 15 rfl
  refine ⟨fd, D, fnM (k := 0) (N := ["_law_pen_here", "_law_many", "_law_blend", "_law_cell", "_law_digit"]) (ps := ["_law_pen_here", "_law_many"]) (b := b__law_draw) false D ⟨rfl, rfl, rfl, by decide +kernel, rfl, by decide +kernel, by decide +kernel⟩ fun cdv A outer s H E G hp => ?_⟩
  exact (ssc (ssb G (xv 0) xs (xadd false (xsubs G (xv 0) xs) xi))
    (ssc (sif (tandc (teq G (xsubs G (xv 0) xs) xi) (tand1 (tlt (xsubs G (xv 0) xs) (xlen (F.free 18) (ac (xsubs G (xv 0) xs) an))))).pt (ssc (sas G (gn 3) (xsubs G (xsubs G (xv 0) xs) (xsubs G (xv 0) xs)))
    (ssc (ssb G (xv 0) xs (xadd false (xsubs G (xv 0) xs) xi))
    (ssc (sif (tge (xv 3) (xpow xi xi)) (ssc (ssb G (xv 0) xs (xsub (xv 3) (xpow xi xi)))
    ssn) (ssc (ssb G (xv 0) xs (xmod (xint (F.free 23) (ac (xadd false (xmul (xsubs G (xv 0) xs) xi) (xv 3)) an)) xi))
    ssn))
    ssn))) ssn)
    (ssc (sif (tgt (xsubs G (xv 0) xs) xi) (ssc (sas G (gn 4) (xmod (xint (F.free 23) (ac (xsubs G (xv 0) xs) an)) (xv 1)))
    (ssc (ssb G (xv 0) xs (xfdv (xsubs G (xv 0) xs) (xv 1)))
    (ssc (srt (xv 4))
    ssn))) ssn)
    (ssc (sas G (gn 2) (xadd false (xadd false (xsubs G (xv 0) xs) (xmul (xsubs G (xv 0) xs) xi)) xi))
    (ssc (srt (xmod (xfdv (xint (F.free 23) (ac (xmod (xpow (xv 2) xi) xi) an)) xi) (xv 1)))
    ssn)))))
theorem o__law_draw (F : Fct fa fn T K mg base) : CallO P w K mg base "_law_draw" 1 m__law_draw := by
  obtain ⟨fd, D, g⟩ := g__law_draw (P := P) (w := w) F
  exact callO D (F.glo 24) g fun _ _ _ _ _ _ us hl => match us, hl with | [_, _], _ => rfl

def b__law_pick : SM := (sSeq (sRet (e2 subV (getV 1) (eA m__law_draw (aC (getV 0) (aC (eA (one1 lenV) (aC (getV 1) aN)) aN)))))
    sSkip)
def m__law_pick : List PV → M PV := runBody false 2 2 b__law_pick
theorem g__law_pick (F : Fct fa fn T K mg base) : ∃ fd, FunD K "_law_pick" "_law_pick" (defArgs (top 17)) (defBody (top 17)) (defScope (top 17)) [] [] (He.ga K "_law_pick") fd ∧ FnG P w K mg base 2 (He.ga K "_law_pick") fd ["_law_pen_here", "_law_some"] (spOf K m__law_pick) := by
  obtain ⟨fd, D⟩ := F.c.def_ 16 rfl
  refine ⟨fd, D, fnM (k := 1) (N := ["_law_pen_here", "_law_some"]) (ps := ["_law_pen_here", "_law_some"]) (b := b__law_pick) false D ⟨rfl, rfl, rfl, by decide +kernel, rfl, by decide +kernel, by decide +kernel⟩ fun cdv A outer s H E G hp => ?_⟩
  exact (ssc (srt (xsubs G (xv 1) (xcall (o__law_draw F) G (by decide) (ac (xv 0) (ac (xlen (F.free 18) (ac (xv 1) an)) an)))))
    ssn)
theorem o__law_pick (F : Fct fa fn T K mg base) : CallO P w K mg base "_law_pick" 2 m__law_pick := by
  obtain ⟨fd, D, g⟩ := g__law_pick (P := P) (w := w) F
  exact callO D (F.glo 25) g fun _ _ _ _ _ _ us hl => match us, hl with | [_, _], _ => rfl

def b__law_far : SM := (sSeq (sAsg (.nm 1) (eC (.int 0)))
    (sSeq (sFor (.nm 2) (iA range1 (aC (eA m__law_pick (aC (getV 0) (aC (eA (newL false) (aC (eC (.int 0)) (aC (eC (.int 1)) (aC (eC (.int 1)) (aC (eC (.int 2)) (aC (eC (.int 6)) aN)))))) aN))) aN)) (sSeq (sAsg (.nm 1) (e2 (binV .Add false) (e2 (binV .Mult false) (getV 1) (eC (.int 1000))) (eA m__law_draw (aC (getV 0) (aC (eC (.int 1000)) aN)))))
    sSkip))
    (sSeq (sRet (eIf (tCmpM .Gt (eA m__law_draw (aC (getV 0) (aC (eC (.int 3)) aN))) (eC (.int 0))) (getV 1) (e1 negV (getV 1))))
    sSkip)))
def m__law_far : List PV → M PV := runBody false 1 3 b__law_far
theorem g__law_far (F : Fct fa fn T K mg base) : ∃ fd, FunD K "_law_far" "_law_far" (defArgs (top 18)) (defBody (top 18)) (defScope (top 18)) [] [] (He.ga K "_law_far") fd ∧ FnG P w K mg base 3 (He.ga K "_law_far") fd ["_law_pen_here"] (spOf K m__law_far) := by
  obtain ⟨fd, D⟩ := F.c.def_ 17 rfl
  refine ⟨fd, D, fnM (k := 2) (N := ["_law_pen_here", "_law_found", "_law_k"]) (ps := ["_law_pen_here"]) (b := b__law_far) false D ⟨rfl, rfl, rfl, by decide +kernel, rfl, by decide +kernel, by decide +kernel⟩ fun cdv A outer s H E G hp => ?_⟩
  exact (ssc (sas G (gn 1) xi)
    (ssc (sfo G hp (ir1 (F.free 19) (ac (xcall (o__law_pick F) G (by decide) (ac (xv 0) (ac (xlst false (ac xi (ac xi (ac xi (ac xi (ac xi an)))))) an))) an)) (gn 2) (ssc (sas G (gn 1) (xadd false (xmul (xv 1) xi) (xcall (o__law_draw F) G (by decide) (ac (xv 0) (ac xi an)))))
    ssn))
    (ssc (srt (xif (tgt (xcall (o__law_draw F) G (by decide) (ac (xv 0) (ac xi an))) xi) (xv 1) (xneg (xv 1))))
    ssn)))
theorem o__law_far (F : Fct fa fn T K mg base) : CallO P w K mg base "_law_far" 3 m__law_far := by
  obtain ⟨fd, D, g⟩ := g__law_far (P := P) (w := w) F
  exact callO D (F.glo 27) g fun _ _ _ _ _ _ us hl => match us, hl with | [_], _ => rfl

def b__law_pen : SM := (sSeq (sAsg (.nm 1) (eC (.int 0)))
    (sSeq (sFor (.nm 2) (iV (getV 0)) (sSeq (sAsg (.nm 1) (e2 (binV .Mod false) (eA (one1 intV) (aC (e2 (binV .Add false) (e2 (binV .Mult false) (getV 1) (eC (.int 47))) (getV 2)) aN)) (eC (.int 1000000007))))
    sSkip))
    (sSeq (sRet (eDct true [Sum.inr "cells", Sum.inr "at", Sum.inr "digits", Sum.inr "count", Sum.inr "fold"] (aC (eA (one1 (listV false)) (aC (getV 0) aN)) (aC (eC (.int 0)) (aC (eC (.int 0)) (aC (eC (.int 0)) (aC (getV 1) aN)))))))
    sSkip)))
def m__law_pen : List PV → M PV := runBody true 1 3 b__law_pen
theorem g__law_pen (F : Fct fa fn T K mg base) : ∃ fd, FunD K "_law_pen" "_law_pen" (defArgs (top 15)) (defBody (top 15)) (defScope (top 15)) [] [] (He.ga K "_law_pen") fd ∧ FnG P w K mg base 1 (He.ga K "_law_pen") fd ["_law_script"] (spOf K m__law_pen) := by
  obtain ⟨fd, D⟩ := F.c.def_ 18 rfl
  refine ⟨fd, D, fnM (k := 0) (N := ["_law_script", "_law_fold", "_law_cell"]) (ps := ["_law_script"]) (b := b__law_pen) true D ⟨rfl, rfl, rfl, by decide +kernel, rfl, by decide +kernel, by decide +kernel⟩ fun cdv A outer s H E G hp => ?_⟩
  exact (ssc (sas G (gn 1) xi)
    (ssc (sfo G hp (iv (xv 0)) (gn 2) (ssc (sas G (gn 1) (xmod (xint (F.free 23) (ac (xadd false (xmul (xv 1) xi) (xv 2)) an)) xi))
    ssn))
    (ssc (srt (xdct true (dc (xlist false (F.free 28) (ac (xv 0) an)) (dc xi (dc xi (dc xi (dc (xv 1) dn)))))))
    ssn)))
theorem o__law_pen (F : Fct fa fn T K mg base) : CallO P w K mg base "_law_pen" 1 m__law_pen := by
  obtain ⟨fd, D, g⟩ := g__law_pen (P := P) (w := w) F
  exact callO D (F.glo 29) g fun _ _ _ _ _ _ us hl => match us, hl with | [_], _ => rfl

def b_law : SM := (sSeq (sAsg (.nm 1) (eA m__law_pen (aC (getV 0) aN)))
    (sSeq (sAsg (.nm 2) (eA (newL true) aN))
    (sSeq (sFor (.nm 3) (iA range1 (aC (eC (.int 2)) aN)) (sSeq (sAsg (.nm 8) (eA m__law_far (aC (getV 1) aN)))
    (sSeq (sExpr (eApp (getV 2) (eA m__law_pick (aC (getV 1) (aC (eA (newL false) (aC (getV 8) (aC (e1 negV (getV 8)) (aC (e2 (binV .Add false) (eC (.str "x")) (eA (one1 strV) (aC (getV 8) aN))) (aC (eC .non) (aC (eA newT (aC (getV 8) (aC (eC (.str "a")) aN))) (aC (eA (newL false) (aC (getV 8) (aC (eC .non) aN))) (aC (eC (.bl true)) (aC (eC (.str "")) (aC (eDct false [Sum.inr "a"] (aC (getV 8) aN)) aN)))))))))) aN)))))
    sSkip)))
    (sSeq (sAsg (.nm 4) (eA m__law_objects (aC (e2 subV (getV 2) (eC (.int 0))) (aC (e2 subV (getV 2) (eC (.int 1))) aN))))
    (sSeq (sFor (.tup [(.nm 3), (.nm 5)]) (iA enumL (aC (getV 4) aN)) (sSeq (sIf (tOrM (tNotM (tV (eA (two2 (isiV tb_LookError [] cxs)) (aC (getV 5) (aC (eC (.cls n_LookError)) aN))))) (tNotM (tV (eA (two2 (isiV tb_ValueError [] cxs)) (aC (getV 5) (aC (eC (.ty "ValueError")) aN)))))) (sSeq (sRet (eC (.bl false)))
    sSkip) sSkip)
    (sSeq (sIf (tCmpM .NotEq (eA m__law_kinds (aC (getV 5) aN)) (compM false (.nm 9) [9] (iA range1 (aC (eA (one1 lenV) (aC (getV 4) aN)) aN)) tYesM (e2 (cmpV .Eq) (getV 9) (getV 3)))) (sSeq (sRet (eC (.bl false)))
    sSkip) sSkip)
    sSkip)))
    (sSeq (sFor (.tup [(.nm 6), (.nm 7)]) (iA zipV (aC (eA m__law_fields (aC (getV 4) aN)) (aC (eA (newL false) (aC (eC (.int 1)) (aC (eC (.int 2)) (aC (eC (.int 2)) (aC (eC (.int 1)) (aC (eC (.int 2)) (aC (eC (.int 1)) (aC (eC (.int 1)) (aC (eC (.int 1)) (aC (eC (.int 1)) (aC (eC (.int 2)) (aC (eC (.int 0)) (aC (eC (.int 0)) aN))))))))))))) aN))) (sSeq (sIf (tCmpM .NotEq (eA (one1 reprV) (aC (getV 6) aN)) (eA (one1 reprV) (aC (eSl false (getV 2) pN (pS (getV 7))) aN))) (sSeq (sRet (eC (.bl false)))
    sSkip) sSkip)
    sSkip))
    (sSeq (sRet (eC (.bl true)))
    sSkip)))))))
def m_law : List PV → M PV := runBody false 1 10 b_law
theorem g_law (F : Fct fa fn T K mg base) : ∃ fd, FunD K "law" "law" (defArgs (top 22)) (defBody (top 22)) (defScope (top 22)) [] [] (He.ga K "law") fd ∧ FnG P w K mg base 4 (He.ga K "law") fd ["_law_script"] (spOf K m_law) := by
  obtain ⟨fd, D⟩ := F.c.def_ 19 rfl
  refine ⟨fd, D, fnM (k := 3) (N := ["_law_script", "_law_pen_here", "_law_given", "_law_k", "_law_row", "_law_e", "_law_fields_here", "_law_many", "_law_far_here", "_law_j"]) (ps := ["_law_script"]) (b := b_law) false D ⟨rfl, rfl, rfl, by decide +kernel, rfl, by decide +kernel, by decide +kernel⟩ fun cdv A outer s H E G hp => ?_⟩
  exact (ssc (sas G (gn 1) (xcall (o__law_pen F) G (by decide) (ac (xv 0) an)))
    (ssc (sas G (gn 2) (xlst true an))
    (ssc (sfo G hp (ir1 (F.free 19) (ac xi an)) (gn 3) (ssc (sas G (gn 8) (xcall (o__law_far F) G (by decide) (ac (xv 1) an)))
    (ssc (sex (xapp (xv 2) (xcall (o__law_pick F) G (by decide) (ac (xv 1) (ac (xlst false (ac (xv 8) (ac (xneg (xv 8)) (ac (xadd false xs (xstr (F.free 26) (ac (xv 8) an))) (ac xn (ac (xtup (ac (xv 8) (ac xs an))) (ac (xlst false (ac (xv 8) (ac xn an))) (ac xb (ac xs (ac (xdct false (dc (xv 8) dn)) an)))))))))) an)))))
    ssn)))
    (ssc (sas G (gn 4) (xcall (o__law_objects F) G (by decide) (ac (xsubs G (xv 2) xi) (ac (xsubs G (xv 2) xi) an))))
    (ssc (sfo G hp (ien (F.free 3) (ac (xv 4) an)) (gt (gsc (gn 3) (gsc (gn 5) gsn))) (ssc (sif (torc (tnot (tv (xisi (F.free 4) tb_LookError [] cxs (F.isa 13).1 (F.isa 13).2.1 (F.isa 13).2.2 (ac (xv 5) (ac (xcls n_LookError (F.cls 21 12)) an))))) (tor1 (tnot (tv (xisi (F.free 4) tb_ValueError [] cxs (F.isa 12).1 (F.isa 12).2.1 (F.isa 12).2.2 (ac (xv 5) (ac (xty "ValueError" (F.free 20)) an))))))).pt (ssc (srt xb)
    ssn) ssn)
    (ssc (sif (tne G (xcall (o__law_kinds F) G (by decide) (ac (xv 5) an)) (xcomp false [("_law_j", 9)] G (ir1 (F.free 19) (ac (xlen (F.free 18) (ac (xv 4) an)) an)) (by kernel_rfl) (by decide +kernel) (fun _ _ _ _ _ => (gn 9)) (fun _ _ _ _ _ Gb => qn) (fun _ _ _ _ _ Gb => (xeq Gb (xv 9) (xv 3))))) (ssc (srt xb)
    ssn) ssn)
    ssn)))
    (ssc (sfo G hp (izp (F.free 1) (ac (xcall (o__law_fields F) G (by decide) (ac (xv 4) an)) (ac (xlst false (ac xi (ac xi (ac xi (ac xi (ac xi (ac xi (ac xi (ac xi (ac xi (ac xi (ac xi (ac xi an))))))))))))) an))) (gt (gsc (gn 6) (gsc (gn 7) gsn))) (ssc (sif (tne G (xrepr G F.sys (F.free 2) (ac (xv 6) an)) (xrepr G F.sys (F.free 2) (ac (xsl false (xv 2) .none (.some (xv 7))) an))) (ssc (srt xb)
    ssn) ssn)
    ssn))
    (ssc (srt xb)
    ssn)))))))
theorem o_law (F : Fct fa fn T K mg base) : CallO P w K mg base "law" 4 m_law := by
  obtain ⟨fd, D, g⟩ := g_law (P := P) (w := w) F
  exact callO D (F.glo 30) g fun _ _ _ _ _ _ us hl => match us, hl with | [_], _ => rfl
end
end L3
/-! L3P: closing what is plain; the pen of the laws. -/
namespace L3
open PySem PySem.Spec PyProof.Rows L2

/-! ### what names no younger thing of the store -/
mutual
def below (n : Nat) : PV → Bool
  | .tup xs => belows n xs
  | .lst xs => belows n xs
  | .ro xs => belows n xs
  | .dct kvs => belowK n kvs
  | .ins _ fs => belowF n fs
  | .exc _ fs => belowF n fs
  | .m i => decide (i < n)
  | _ => true
def belows (n : Nat) : List PV → Bool
  | [] => true
  | x :: xs => below n x && belows n xs
def belowK (n : Nat) : List (Key × PV) → Bool
  | [] => true
  | (_, x) :: xs => below n x && belowK n xs
def belowF (n : Nat) : List (Nat × PV) → Bool
  | [] => true
  | (_, x) :: xs => below n x && belowF n xs
end
def belowM (n : Nat) : MO → Bool
  | .frz v => below n v
  | .lst xs => belows n xs
  | .dct xs => belowK n xs
  | .ins _ fs => belowF n fs
section
variable {n : Nat} {f : Nat → Option PV}
mutual
theorem trav_below (hf : ∀ i, i < n → f i = some (.m i)) : ∀ {v : PV}, below n v = true → trav f v = some v
  | .tup xs, h => by
    unfold below at h
    unfold trav
    rw [travs_below hf h]
    rfl
  | .lst xs, h => by
    unfold below at h
    unfold trav
    rw [travs_below hf h]
    rfl
  | .ro xs, h => by
    unfold below at h
    unfold trav
    rw [travs_below hf h]
    rfl
  | .dct xs, h => by
    unfold below at h
    unfold trav
    rw [travK_below hf h]
    rfl
  | .ins c xs, h => by
    unfold below at h
    unfold trav
    rw [travF_below hf h]
    rfl
  | .exc c xs, h => by
    unfold below at h
    unfold trav
    rw [travF_below hf h]
    rfl
  | .m i, h => by
    unfold below at h
    unfold trav
    exact hf i (of_decide_eq_true h)
  | .non, _ => by unfold trav; rfl
  | .bl _, _ => by unfold trav; rfl
  | .int _, _ => by unfold trav; rfl
  | .str _, _ => by unfold trav; rfl
  | .fn _, _ => by unfold trav; rfl
  | .cls _, _ => by unfold trav; rfl
  | .ty _, _ => by unfold trav; rfl
theorem travs_below (hf : ∀ i, i < n → f i = some (.m i)) : ∀ {v : List PV}, belows n v = true → travs f v = some v
  | [], _ => by unfold travs; rfl
  | x :: xs, h => by
    unfold belows at h
    obtain ⟨h1, h2⟩ := Bool.and_eq_true_iff.mp h
    unfold travs
    rw [trav_below hf h1, travs_below hf h2]
    rfl
theorem travK_below (hf : ∀ i, i < n → f i = some (.m i)) : ∀ {v : List (Key × PV)}, belowK n v = true → travK f v = some v
  | [], _ => by unfold travK; rfl
  | (k, x) :: xs, h => by
    unfold belowK at h
    obtain ⟨h1, h2⟩ := Bool.and_eq_true_iff.mp h
    unfold travK
    rw [trav_below hf h1, travK_below hf h2]
    rfl
theorem travF_below (hf : ∀ i, i < n → f i = some (.m i)) : ∀ {v : List (Nat × PV)}, belowF n v = true → travF f v = some v
  | [], _ => by unfold travF; rfl
  | (k, x) :: xs, h => by
    unfold belowF at h
    obtain ⟨h1, h2⟩ := Bool.and_eq_true_iff.mp h
    unfold travF
    rw [trav_below hf h1, travF_below hf h2]
    rfl
end
theorem travM_below (hf : ∀ i, i < n → f i = some (.m i)) {mo : MO} (h : belowM n mo = true) : travM f mo = some mo := by
  cases mo with
  | frz v =>
    show (trav f v).map MO.frz = _
    rw [trav_below hf h]
    rfl
  | lst v =>
    show (travs f v).map MO.lst = _
    rw [travs_below hf h]
    rfl
  | dct v =>
    show (travK f v).map MO.dct = _
    rw [travK_below hf h]
    rfl
  | ins c v =>
    show (travF f v).map (MO.ins c) = _
    rw [travF_below hf h]
    rfl
theorem travMs_below (hf : ∀ i, i < n → f i = some (.m i)) : ∀ {st : Sto}, (∀ mo ∈ st, belowM n mo = true) → travMs f st = some st
  | [], _ => by unfold travMs; rfl
  | x :: xs, h => by
    unfold travMs
    rw [travM_below hf (h x (List.mem_cons_self ..)), travMs_below hf fun mo hm => h mo (List.mem_cons_of_mem _ hm)]
    rfl
theorem clo_old {st : Sto} {k i : Nat} (h : i < n) : clo n st k i = some (.m i) := by
  cases k <;> (unfold clo; rw [if_pos h])
end
/-- the first n things name none younger than n -/
def Sb (n : Nat) (st : Sto) : Prop := ∀ mo ∈ st.take n, belowM n mo = true
theorem closeSt_below {n : Nat} {st : Sto} (h : Sb n st) : closeSt n st = some (st.take n) := travMs_below (fun i hi => clo_old hi) h
theorem finV_below {n : Nat} {st : Sto} {v : PV} (hv : below n v = true) (h : Sb n st) : finV n v st = .ok v (st.take n) := by
  unfold finV closeV
  rw [trav_below (fun i hi => clo_old hi) hv, closeSt_below h]
theorem Sb.set {n i : Nat} {st : Sto} {mo : MO} (h : Sb n st) (hm : belowM n mo = true) : Sb n (st.set i mo) := fun x hx => by
  rw [List.take_set] at hx
  rcases List.mem_or_eq_of_mem_set hx with q | q
  · exact h x q
  · rw [q]
    exact hm
theorem Sb.app {n : Nat} {st more : Sto} (h : Sb n st) (hl : n ≤ st.length) : Sb n (st ++ more) := fun x hx => by
  rw [List.take_append_of_le_length hl] at hx
  exact h x hx
theorem finK_dct {n i : Nat} {st : Sto} {kvs : List (Key × PV)} (hi : n ≤ i) (e : st[i]? = some (.dct kvs)) (hk : belowK n kvs = true) (h : Sb n st) : finK n (.m i) st = .ok (.m n) (st.take n ++ [.dct kvs]) := by
  unfold finK
  dsimp only
  rw [decide_eq_true hi, e]
  dsimp only
  have hs : Sb n (st.set i (.frz (.m i))) := fun x hx => by
    rw [List.take_set_of_le hi] at hx
    exact h x hx
  rw [travK_below (fun i hi => clo_old hi) hk, closeSt_below hs, List.take_set_of_le hi]
/-! ### the pen -/
structure Pen where
  cells : List Int
  at_ : Int
  digits : Int
  count : Int
  fold : Int
def penK (p : Pen) : List (Key × PV) := [(Sum.inr "cells", .lst (p.cells.map .int)), (Sum.inr "at", .int p.at_), (Sum.inr "digits", .int p.digits), (Sum.inr "count", .int p.count), (Sum.inr "fold", .int p.fold)]
theorem val_cells {p : Pen} : valP (penK p) (Sum.inr "cells") = some (.lst (p.cells.map .int)) := rfl
theorem val_at {p : Pen} : valP (penK p) (Sum.inr "at") = some (.int p.at_) := rfl
theorem val_digits {p : Pen} : valP (penK p) (Sum.inr "digits") = some (.int p.digits) := rfl
theorem val_count {p : Pen} : valP (penK p) (Sum.inr "count") = some (.int p.count) := rfl
theorem val_fold {p : Pen} : valP (penK p) (Sum.inr "fold") = some (.int p.fold) := rfl
theorem put_at {p : Pen} {i : Int} : putP (penK p) (Sum.inr "at") (.int i) = penK { p with at_ := i } := rfl
theorem put_digits {p : Pen} {i : Int} : putP (penK p) (Sum.inr "digits") (.int i) = penK { p with digits := i } := rfl
theorem put_count {p : Pen} {i : Int} : putP (penK p) (Sum.inr "count") (.int i) = penK { p with count := i } := rfl
theorem put_fold {p : Pen} {i : Int} : putP (penK p) (Sum.inr "fold") (.int i) = penK { p with fold := i } := rfl
/-! ### runs, step by step -/
section
variable {ρ : Rho} {st st1 st2 st3 : Sto} {v w x : PV} {a b : Rho → M PV} {vs : List PV} {mr : Rho → M (List PV)}
theorem r_e2 {f : PV → PV → M PV} {r : Res PV} (ha : a ρ st = .ok v st1) (hb : b ρ st1 = .ok w st2) (hf : f v w st2 = r) : e2 f a b ρ st = r := by
  show ((a ρ st).andThen fun v => M.bind (b ρ) fun w => f v w) = r
  rw [ha]
  show ((b ρ st1).andThen fun w => f v w) = r
  rw [hb]
  exact hf
theorem r_e1 {f : PV → M PV} {r : Res PV} (ha : a ρ st = .ok v st1) (hf : f v st1 = r) : e1 f a ρ st = r := by
  show ((a ρ st).andThen f) = r
  rw [ha]
  exact hf
theorem r_eA {f : List PV → M PV} {r : Res PV} (ha : mr ρ st = .ok vs st1) (hf : f vs st1 = r) : eA f mr ρ st = r := by
  show ((mr ρ st).andThen f) = r
  rw [ha]
  exact hf
theorem r_iA {f : List PV → M (List PV)} {r : Res (List PV)} (ha : mr ρ st = .ok vs st1) (hf : f vs st1 = r) : iA f mr ρ st = r := by
  show ((mr ρ st).andThen f) = r
  rw [ha]
  exact hf
theorem r_iV {xs : List PV} (ha : a ρ st = .ok v st1) (hf : itemsV v st1 = .ok xs st2) : iV a ρ st = .ok xs st2 := by
  show ((a ρ st).andThen itemsV) = _
  rw [ha]
  exact hf
theorem r_aN : aN ρ st = .ok [] st := rfl
theorem r_aC (ha : a ρ st = .ok v st1) (hr : mr ρ st1 = .ok vs st2) : aC a mr ρ st = .ok (v :: vs) st2 := by
  show ((a ρ st).andThen fun v => M.bind (mr ρ) fun vs => M.pure (v :: vs)) = _
  rw [ha]
  show ((mr ρ st1).andThen fun vs => M.pure (v :: vs)) = _
  rw [hr]
  rfl
theorem r_var {i : Nat} (h : ρ[i]? = some (some v)) (hn : normV st v = x) : getV i ρ st = .ok x st := by
  unfold getV
  rw [h]
  dsimp only
  rw [hn]
theorem r_c : eC v ρ st = .ok v st := rfl
variable {t u : Rho → M Bool} {p q : Bool}
theorem r_cmp {op : CmpOp} (ha : a ρ st = .ok v st1) (hb : b ρ st1 = .ok w st2) (hf : cmpV op v w st2 = .ok (.bl p) st3) : tCmpM op a b ρ st = .ok p st3 := by
  show ((a ρ st).andThen fun v => M.bind (b ρ) fun w => M.bind (cmpV op v w) boolV) = _
  rw [ha]
  show ((b ρ st1).andThen fun w => M.bind (cmpV op v w) boolV) = _
  rw [hb]
  show ((cmpV op v w st2).andThen boolV) = _
  rw [hf]
  rfl
theorem r_tv (ha : a ρ st = .ok v st1) (hf : truV st1 v = some p) : tV a ρ st = .ok p st1 := by
  show ((a ρ st).andThen testV) = _
  rw [ha]
  show testV v st1 = _
  unfold testV
  rw [hf]
theorem r_not (h : t ρ st = .ok p st1) : tNotM t ρ st = .ok (!p) st1 := by
  show ((t ρ st).andThen fun k => M.pure (!k)) = _
  rw [h]
  rfl
theorem r_andT {r : Res Bool} (h : t ρ st = .ok true st1) (h2 : u ρ st1 = r) : tAndM t u ρ st = r := by
  show ((t ρ st).andThen fun k => match k with | true => u ρ | false => M.pure false) = _
  rw [h]
  exact h2
theorem r_andF (h : t ρ st = .ok false st1) : tAndM t u ρ st = .ok false st1 := by
  show ((t ρ st).andThen fun k => match k with | true => u ρ | false => M.pure false) = _
  rw [h]
  rfl
theorem r_orF {r : Res Bool} (h : t ρ st = .ok false st1) (h2 : u ρ st1 = r) : tOrM t u ρ st = r := by
  show ((t ρ st).andThen fun k => match k with | true => M.pure true | false => u ρ) = _
  rw [h]
  exact h2
theorem r_orT (h : t ρ st = .ok true st1) : tOrM t u ρ st = .ok true st1 := by
  show ((t ρ st).andThen fun k => match k with | true => M.pure true | false => u ρ) = _
  rw [h]
  rfl
theorem r_ifT {r : Res PV} (h : t ρ st = .ok true st1) (h2 : a ρ st1 = r) : eIf t a b ρ st = r := by
  show ((t ρ st).andThen fun k => match k with | true => a ρ | false => b ρ) = _
  rw [h]
  exact h2
theorem r_ifF {r : Res PV} (h : t ρ st = .ok false st1) (h2 : b ρ st1 = r) : eIf t a b ρ st = r := by
  show ((t ρ st).andThen fun k => match k with | true => a ρ | false => b ρ) = _
  rw [h]
  exact h2
variable {ρ1 ρ2 : Rho} {m1 m2 : SM} {R : SRes}
theorem r_seq (h : m1 ρ st = .nx ρ1 st1) (h2 : m2 ρ1 st1 = R) : sSeq m1 m2 ρ st = R := by
  unfold sSeq
  rw [h]
  exact h2
theorem r_seqR (h : m1 ρ st = .rt v st1) : sSeq m1 m2 ρ st = .rt v st1 := by
  unfold sSeq
  rw [h]
theorem r_skip : sSkip ρ st = .nx ρ st := rfl
theorem r_sif {c : Bool} (h : t ρ st = .ok c st1) (h2 : (match c with | true => m1 | false => m2) ρ st1 = R) : sIf t m1 m2 ρ st = R := by
  unfold sIf
  rw [h]
  cases c <;> exact h2
theorem r_asg {i : Nat} (h : a ρ st = .ok v st1) : sAsg (.nm i) a ρ st = .nx (ρ.set i (some v)) st1 := by
  unfold sAsg
  rw [h]
  show (match asgP st1 (.nm i) v ρ with | some ρ' => SRes.nx ρ' st1 | none => .bad) = _
  unfold asgP
  rfl
theorem r_ret (h : a ρ st = .ok v st1) : sRet a ρ st = .rt v st1 := by
  unfold sRet
  rw [h]
  rfl
theorem r_expr (h : a ρ st = .ok v st1) : sExpr a ρ st = .nx ρ st1 := by
  unfold sExpr
  rw [h]
  rfl
end
end L3
/-! L3Q: the laws' draws. -/
namespace L3
open PySem PySem.Spec PyProof.Rows L2
theorem mulOk_small {i j : Int} (h : j.natAbs < 2 ^ 64) : mulOk i j = true := by
  have hb : Builtin.Int.intBits j ≤ 64 := by
    unfold Builtin.Int.intBits
    split
    · omega
    · rename_i hj
      have h0 : j.natAbs ≠ 0 := by
        intro z
        have : j = 0 := Int.natAbs_eq_zero.mp z
        rw [this] at hj
        exact hj rfl
      have := (Nat.log2_lt h0).mpr h
      omega
  unfold mulOk
  have : decide (Builtin.Int.intBits j > shortFactorBits) = false := decide_eq_false (by unfold shortFactorBits; omega)
  rw [this, Bool.and_false, Bool.false_and]
  rfl
theorem mulOk_small' {i j : Int} (h : i.natAbs < 2 ^ 64) : mulOk i j = true := by
  have hb : Builtin.Int.intBits i ≤ 64 := by
    unfold Builtin.Int.intBits
    split
    · omega
    · rename_i hj
      have h0 : i.natAbs ≠ 0 := by
        intro z
        have : i = 0 := Int.natAbs_eq_zero.mp z
        rw [this] at hj
        exact hj rfl
      have := (Nat.log2_lt h0).mpr h
      omega
  unfold mulOk
  have : decide (Builtin.Int.intBits i > shortFactorBits) = false := decide_eq_false (by unfold shortFactorBits; omega)
  rw [this, Bool.false_and, Bool.false_and]
  rfl
section
variable {i j : Int} {st : Sto} {mu : Bool}
theorem v_add : binV .Add mu (.int i) (.int j) st = .ok (.int (i + j)) st := rfl
theorem v_sub : binV .Sub mu (.int i) (.int j) st = .ok (.int (i - j)) st := rfl
theorem v_mul (h : mulOk i j = true) : binV .Mult mu (.int i) (.int j) st = .ok (.int (i * j)) st := by
  show (match mulOk i j with | true => M.pure (PV.int (i * j)) | false => M.bad) st = _
  rw [h]
  rfl
theorem v_mod (h : j ≠ 0) : binV .Mod mu (.int i) (.int j) st = .ok (.int (i.fmod j)) st := by
  show (match decide (j = 0) with | false => M.pure (PV.int (i.fmod j)) | true => M.bad) st = _
  rw [decide_eq_false h]
  rfl
theorem v_fdv (h : j ≠ 0) (h2 : Builtin.divisionGoesByPylong i j = false) : binV .FloorDiv mu (.int i) (.int j) st = .ok (.int (i.fdiv j)) st := by
  show (match decide (j = 0) || Builtin.divisionGoesByPylong i j with | false => M.pure (PV.int (i.fdiv j)) | true => M.bad) st = _
  rw [decide_eq_false h, h2]
  rfl
theorem v_pow (h : powOk i j = true) : binV .Pow mu (.int i) (.int j) st = .ok (.int (i ^ j.toNat)) st := by
  show (match powOk i j with | true => M.pure (PV.int (i ^ j.toNat)) | false => M.bad) st = _
  rw [h]
  rfl
theorem v_eq : cmpV .Eq (.int i) (.int j) st = .ok (.bl (decide (i = j))) st := by
  show Res.ok (PV.bl (PyData.eqv (.int i) (.int j))) st = _
  congr 2
theorem v_eqT (h : i = j) : cmpV .Eq (.int i) (.int j) st = .ok (.bl true) st := by rw [v_eq, decide_eq_true h]
theorem v_eqF (h : ¬ i = j) : cmpV .Eq (.int i) (.int j) st = .ok (.bl false) st := by rw [v_eq, decide_eq_false h]
theorem v_lt : cmpV .Lt (.int i) (.int j) st = .ok (.bl (decide (i < j))) st := rfl
theorem v_le : cmpV .LtE (.int i) (.int j) st = .ok (.bl (decide (i ≤ j))) st := rfl
theorem v_gt : cmpV .Gt (.int i) (.int j) st = .ok (.bl (decide (j < i))) st := rfl
theorem v_ge : cmpV .GtE (.int i) (.int j) st = .ok (.bl (decide (j ≤ i))) st := rfl
theorem v_ltT (h : i < j) : cmpV .Lt (.int i) (.int j) st = .ok (.bl true) st := by rw [v_lt, decide_eq_true h]
theorem v_ltF (h : ¬ i < j) : cmpV .Lt (.int i) (.int j) st = .ok (.bl false) st := by rw [v_lt, decide_eq_false h]
theorem v_leT (h : i ≤ j) : cmpV .LtE (.int i) (.int j) st = .ok (.bl true) st := by rw [v_le, decide_eq_true h]
theorem v_leF (h : ¬ i ≤ j) : cmpV .LtE (.int i) (.int j) st = .ok (.bl false) st := by rw [v_le, decide_eq_false h]
theorem v_gtT (h : j < i) : cmpV .Gt (.int i) (.int j) st = .ok (.bl true) st := by rw [v_gt, decide_eq_true h]
theorem v_gtF (h : ¬ j < i) : cmpV .Gt (.int i) (.int j) st = .ok (.bl false) st := by rw [v_gt, decide_eq_false h]
theorem v_geT (h : j ≤ i) : cmpV .GtE (.int i) (.int j) st = .ok (.bl true) st := by rw [v_ge, decide_eq_true h]
theorem v_geF (h : ¬ j ≤ i) : cmpV .GtE (.int i) (.int j) st = .ok (.bl false) st := by rw [v_ge, decide_eq_false h]
end
theorem atI_ok {α : Type} {xs : List α} {i : Int} {x : α} (h0 : 0 ≤ i) (h : xs[i.toNat]? = some x) : atI xs i = some x := by
  have hl := (List.getElem?_eq_some_iff.mp h).1
  unfold atI ixN
  rw [if_pos h0, if_pos (by omega)]
  exact h
/-! ### the draw -/
structure PenOk (p : Pen) (c : Nat) : Prop where
  at0 : 0 ≤ p.at_
  dg : 0 ≤ p.digits
  ct0 : 0 ≤ p.count
  ct : p.count ≤ c
  fd0 : 0 ≤ p.fold
  fd : p.fold < 4294967296
def pst (st : Sto) (i : Nat) (p : Pen) : Sto := st.set i (.dct (penK p))
theorem pst_at {st : Sto} {i : Nat} {p : Pen} (hi : i < st.length) : (pst st i p)[i]? = some (.dct (penK p)) := List.getElem?_set_self hi
theorem pst_set {st : Sto} {i : Nat} {p q : Pen} : (pst st i p).set i (.dct (penK q)) = pst st i q := List.set_set ..
theorem pst_self {st : Sto} {i : Nat} {p : Pen} (h : st[i]? = some (.dct (penK p))) : pst st i p = st := by
  unfold pst
  refine List.ext_getElem? fun j => ?_
  by_cases hj : i = j
  · subst hj
    rw [List.getElem?_set_self (List.getElem?_eq_some_iff.mp h).1, h]
  · rw [List.getElem?_set_ne hj]
theorem pst_len {st : Sto} {i : Nat} {p : Pen} : (pst st i p).length = st.length := List.length_set ..
section
variable {ρ : Rho} {st : Sto} {i : Nat} {p q : Pen} {k : Str} {m : Rho → M PV} {v x : PV}
theorem r_m (hi : i < st.length) (hρ : ρ[0]? = some (some (.m i))) : getV 0 ρ (pst st i p) = .ok (.m i) (pst st i p) := by
  refine r_var hρ ?_
  unfold normV
  dsimp only
  rw [pst_at hi]
theorem r_penset (hi : i < st.length) (hρ : ρ[0]? = some (some (.m i))) (hm : m ρ (pst st i p) = .ok v (pst st i p)) (hq : putP (penK p) (Sum.inr k) v = penK q) : sSub (getV 0) (eC (.str k)) m ρ (pst st i p) = .nx ρ (pst st i q) := by
  unfold sSub
  rw [hm]
  show ((getV 0 ρ (pst st i p)).toS ρ fun o st2 => (eC (.str k) ρ st2).toS ρ fun j st3 => (setV o j v st3).toS ρ fun _ st4 => .nx ρ st4) = _
  rw [r_m hi hρ]
  show ((setV (.m i) (.str k) v (pst st i p)).toS ρ fun _ st4 => .nx ρ st4) = _
  unfold setV
  dsimp only
  rw [pst_at hi]
  show ((Res.ok () ((pst st i p).set i (.dct (putP (penK p) (Sum.inr k) v)))).toS ρ fun _ st4 => .nx ρ st4) = _
  rw [hq, pst_set]
  rfl
theorem r_penget (hi : i < st.length) (hρ : ρ[0]? = some (some (.m i))) (hx : valP (penK p) (Sum.inr k) = some x) (hn : normV (pst st i p) x = x) : e2 subV (getV 0) (eC (.str k)) ρ (pst st i p) = .ok x (pst st i p) := by
  refine r_e2 (r_m hi hρ) r_c ?_
  unfold subV dctV
  dsimp only
  rw [pst_at hi]
  dsimp only
  rw [hx]
  dsimp only
  rw [hn]
end
def refillS : SM := (sIf (tAndM (tCmpM .Eq (e2 subV (getV 0) (eC (.str "digits"))) (eC (.int 0))) (tCmpM .Lt (e2 subV (getV 0) (eC (.str "at"))) (eA (one1 lenV) (aC (e2 subV (getV 0) (eC (.str "cells"))) aN)))) (sSeq (sAsg (.nm 3) (e2 subV (e2 subV (getV 0) (eC (.str "cells"))) (e2 subV (getV 0) (eC (.str "at")))))
    (sSeq (sSub (getV 0) (eC (.str "at")) (e2 (binV .Add false) (e2 subV (getV 0) (eC (.str "at"))) (eC (.int 1))))
    (sSeq (sIf (tCmpM .GtE (getV 3) (e2 (binV .Pow false) (eC (.int 10)) (eC (.int 18)))) (sSeq (sSub (getV 0) (eC (.str "digits")) (e2 (binV .Sub false) (getV 3) (e2 (binV .Pow false) (eC (.int 10)) (eC (.int 18)))))
    sSkip) (sSeq (sSub (getV 0) (eC (.str "fold")) (e2 (binV .Mod false) (eA (one1 intV) (aC (e2 (binV .Add false) (e2 (binV .Mult false) (e2 subV (getV 0) (eC (.str "fold"))) (eC (.int 69069))) (getV 3)) aN)) (eC (.int 2147483587))))
    sSkip))
    sSkip))) sSkip)
def digitS : SM := (sIf (tCmpM .Gt (e2 subV (getV 0) (eC (.str "digits"))) (eC (.int 0))) (sSeq (sAsg (.nm 4) (e2 (binV .Mod false) (eA (one1 intV) (aC (e2 subV (getV 0) (eC (.str "digits"))) aN)) (getV 1)))
    (sSeq (sSub (getV 0) (eC (.str "digits")) (e2 (binV .FloorDiv false) (e2 subV (getV 0) (eC (.str "digits"))) (getV 1)))
    (sSeq (sRet (getV 4))
    sSkip))) sSkip)
def blendS : SM := (sSeq (sAsg (.nm 2) (e2 (binV .Add false) (e2 (binV .Add false) (e2 subV (getV 0) (eC (.str "fold"))) (e2 (binV .Mult false) (e2 subV (getV 0) (eC (.str "count"))) (eC (.int 7907)))) (eC (.int 43))))
    (sSeq (sRet (e2 (binV .Mod false) (e2 (binV .FloorDiv false) (eA (one1 intV) (aC (e2 (binV .Mod false) (e2 (binV .Pow false) (getV 2) (eC (.int 17))) (eC (.int 2305843009213693951))) aN)) (eC (.int 128))) (getV 1)))
    sSkip))
def drawS : SM := (sSeq (sSub (getV 0) (eC (.str "count")) (e2 (binV .Add false) (e2 subV (getV 0) (eC (.str "count"))) (eC (.int 1))))
    (sSeq refillS (sSeq digitS blendS)))
def drawM : List PV → M PV := runBody false 2 5 drawS
theorem lenV_lst {xs : List PV} {st : Sto} : lenV (.lst xs) st = .ok (.int xs.length) st := rfl
section
variable {st : Sto} {i : Nat} {p : Pen} {many : Int} {c : Nat}
theorem refill_ok {z2 z4 : Option PV} (hi : i < st.length) (hp : PenOk p c) : ∃ z3 p', PenOk p' c ∧ p'.cells = p.cells ∧ refillS [some (.m i), some (.int many), z2, none, z4] (pst st i p) = .nx [some (.m i), some (.int many), z2, z3, z4] (pst st i p') := by
  have g : ∀ {ρ : Rho} {p : Pen} {k : Str} {n : Int}, ρ[0]? = some (some (PV.m i)) → valP (penK p) (Sum.inr k) = some (.int n) → e2 subV (getV 0) (eC (.str k)) ρ (pst st i p) = .ok (.int n) (pst st i p) := fun h1 h2 => r_penget hi h1 h2 rfl
  have gc : ∀ {ρ : Rho} {p : Pen}, ρ[0]? = some (some (PV.m i)) → e2 subV (getV 0) (eC (.str "cells")) ρ (pst st i p) = .ok (.lst (p.cells.map .int)) (pst st i p) := fun h1 => r_penget hi h1 val_cells rfl
  by_cases h1 : p.digits = 0
  · by_cases h2 : p.at_ < p.cells.length
    · have hat : ∃ cell, p.cells[p.at_.toNat]? = some cell := by
        have := hp.at0
        exact ⟨_, List.getElem?_eq_getElem (by omega)⟩
      obtain ⟨cell, hcell⟩ := hat
      have hsub : subV (.lst (p.cells.map .int)) (.int p.at_) (pst st i p) = .ok (.int cell) (pst st i p) := by
        show (match atP (p.cells.map PV.int) p.at_ with | some x => Res.ok (normV (pst st i p) x) (pst st i p) | none => .bad) = _
        have : atP (p.cells.map PV.int) p.at_ = some (.int cell) := atI_ok hp.at0 (by rw [List.getElem?_map, hcell]; rfl)
        rw [this]
        rfl
      have ht : tAndM (tCmpM .Eq (e2 subV (getV 0) (eC (.str "digits"))) (eC (.int 0))) (tCmpM .Lt (e2 subV (getV 0) (eC (.str "at"))) (eA (one1 lenV) (aC (e2 subV (getV 0) (eC (.str "cells"))) aN))) [some (.m i), some (.int many), z2, none, z4] (pst st i p) = .ok true (pst st i p) := by
        exact r_andT (r_cmp (g rfl val_digits) r_c (v_eqT h1)) (r_cmp (g rfl val_at) (r_eA (r_aC (gc rfl) r_aN) lenV_lst) (v_ltT (by rw [List.length_map]; exact h2)))
      let p1 : Pen := { p with at_ := p.at_ + 1 }
      by_cases h3 : (10 : Int) ^ 18 ≤ cell
      · refine ⟨some (.int cell), { p1 with digits := cell - 10 ^ 18 }, ⟨?_, ?_, hp.ct0, hp.ct, hp.fd0, hp.fd⟩, rfl, ?_⟩
        · have := hp.at0
          show 0 ≤ p.at_ + 1
          omega
        · show 0 ≤ cell - 10 ^ 18
          omega
        refine r_sif ht ?_
        refine r_seq (r_asg (r_e2 (gc rfl) (g rfl val_at) hsub)) ?_
        refine r_seq (r_penset hi rfl (r_e2 (g rfl val_at) r_c v_add) (q := p1) put_at) ?_
        refine r_seq (r_sif (c := true) (r_cmp (r_var (v := .int cell) rfl rfl) (r_e2 r_c r_c (v_pow rfl)) (v_geT h3)) (r_seq (r_penset hi rfl (r_e2 (r_var (v := .int cell) rfl rfl) (r_e2 r_c r_c (v_pow rfl)) v_sub) (q := { p1 with digits := cell - 10 ^ 18 }) put_digits) r_skip)) r_skip
      · refine ⟨some (.int cell), { p1 with fold := (p.fold * 69069 + cell).fmod 2147483587 }, ⟨?_, ?_, hp.ct0, hp.ct, ?_, ?_⟩, rfl, ?_⟩
        · have := hp.at0
          show 0 ≤ p.at_ + 1
          omega
        · exact hp.dg
        · exact Int.fmod_nonneg_of_pos _ (by decide)
        · have := Int.fmod_lt_of_pos (p.fold * 69069 + cell) (b := 2147483587) (by decide)
          show (p.fold * 69069 + cell).fmod 2147483587 < 4294967296
          omega
        refine r_sif ht ?_
        refine r_seq (r_asg (r_e2 (gc rfl) (g rfl val_at) hsub)) ?_
        refine r_seq (r_penset hi rfl (r_e2 (g rfl val_at) r_c v_add) (q := p1) put_at) ?_
        refine r_seq (r_sif (c := false) (r_cmp (r_var (v := .int cell) rfl rfl) (r_e2 r_c r_c (v_pow rfl)) (v_geF h3)) (r_seq (r_penset hi rfl (r_e2 (r_eA (r_aC (r_e2 (r_e2 (g rfl val_fold) r_c (v_mul (mulOk_small (by decide)))) (r_var (v := .int cell) rfl rfl) v_add) r_aN) rfl) r_c (v_mod (by decide))) put_fold) r_skip)) r_skip
    · refine ⟨none, p, hp, rfl, r_sif (c := false) (r_andT (r_cmp (g rfl val_digits) r_c (v_eqT h1)) (r_cmp (g rfl val_at) (r_eA (r_aC (gc rfl) r_aN) lenV_lst) (v_ltF (by rw [List.length_map]; exact h2)))) r_skip⟩
  · refine ⟨none, p, hp, rfl, r_sif (c := false) (r_andF (r_cmp (g rfl val_digits) r_c (v_eqF h1))) r_skip⟩
theorem draw_body (hi : i < st.length) (hp : PenOk p c) (hc : c < 2 ^ 40) (hm : 0 < many) (hd : ∀ x, Builtin.divisionGoesByPylong x many = false) :
    ∃ r p', 0 ≤ r ∧ r < many ∧ PenOk p' (c + 1) ∧ p'.cells = p.cells ∧ drawS [some (.m i), some (.int many), none, none, none] (pst st i p) = .rt (.int r) (pst st i p') := by
  have g : ∀ {ρ : Rho} {p : Pen} {k : Str} {n : Int}, ρ[0]? = some (some (PV.m i)) → valP (penK p) (Sum.inr k) = some (.int n) → e2 subV (getV 0) (eC (.str k)) ρ (pst st i p) = .ok (.int n) (pst st i p) := fun h1 h2 => r_penget hi h1 h2 rfl
  have hp1 : PenOk { p with count := p.count + 1 } (c + 1) := by
    have := hp.ct0
    have := hp.ct
    exact ⟨hp.at0, hp.dg, by show 0 ≤ p.count + 1; omega, by show p.count + 1 ≤ ((c + 1 : Nat) : Int); omega, hp.fd0, hp.fd⟩
  obtain ⟨z3, p2, hp2, hcl, e2'⟩ := refill_ok (st := st) (many := many) (z2 := none) (z4 := none) hi hp1
  have s1 : sSub (getV 0) (eC (.str "count")) (e2 (binV .Add false) (e2 subV (getV 0) (eC (.str "count"))) (eC (.int 1))) [some (.m i), some (.int many), none, none, none] (pst st i p) = .nx [some (.m i), some (.int many), none, none, none] (pst st i { p with count := p.count + 1 }) :=
    r_penset hi rfl (r_e2 (g rfl val_count) r_c v_add) put_count
  have hne : many ≠ 0 := by omega
  by_cases h1 : 0 < p2.digits
  · refine ⟨p2.digits.fmod many, { p2 with digits := p2.digits.fdiv many }, Int.fmod_nonneg_of_pos _ hm, Int.fmod_lt_of_pos _ hm, ⟨hp2.at0, ?_, hp2.ct0, hp2.ct, hp2.fd0, hp2.fd⟩, hcl, ?_⟩
    · show 0 ≤ p2.digits.fdiv many
      exact Int.fdiv_nonneg (by omega) (by omega)
    refine r_seq s1 (r_seq e2' (r_seqR (r_sif (c := true) (r_cmp (g rfl val_digits) r_c (v_gtT h1)) ?_)))
    · refine r_seq (r_asg (r_e2 (r_eA (r_aC (g rfl val_digits) r_aN) rfl) (r_var (v := .int many) rfl rfl) (v_mod hne))) ?_
      refine r_seq (r_penset hi rfl (r_e2 (g rfl val_digits) (r_var (v := .int many) rfl rfl) (v_fdv hne (hd _))) put_digits) ?_
      exact r_seqR (r_ret (r_var (v := .int (p2.digits.fmod many)) rfl rfl))
  · have hb : powOk (p2.fold + p2.count * 7907 + 43) 17 = true := by
      have h1 := hp2.fd0
      have h2 := hp2.fd
      have h3 := hp2.ct0
      have h4 := hp2.ct
      have h5 : p2.count < 2 ^ 41 := by
        have : (2 : Int) ^ 41 = 2199023255552 := by decide
        have h6 : (2 : Nat) ^ 40 = 1099511627776 := by decide
        omega
      unfold powOk
      have h7 : (p2.fold + p2.count * 7907 + 43).natAbs < 2 ^ 64 := by
        have e1 : (2 : Int) ^ 41 = 2199023255552 := by decide
        have e2 : (2 : Nat) ^ 64 = 18446744073709551616 := by decide
        rw [e1] at h5
        rw [e2]
        omega
      rw [decide_eq_true h7]
      rfl
    refine ⟨((((p2.fold + p2.count * 7907 + 43) ^ (17 : Int).toNat).fmod 2305843009213693951).fdiv 128).fmod many, p2, Int.fmod_nonneg_of_pos _ hm, Int.fmod_lt_of_pos _ hm, hp2, hcl, ?_⟩
    refine r_seq s1 (r_seq e2' (r_seq (r_sif (c := false) (r_cmp (g rfl val_digits) r_c (v_gtF h1)) r_skip) ?_))
    · refine r_seq (r_asg (r_e2 (r_e2 (g rfl val_fold) (r_e2 (g rfl val_count) r_c (v_mul (mulOk_small (by decide)))) v_add) r_c v_add)) (r_seqR (r_ret ?_))
      exact r_e2 (r_e2 (r_eA (r_aC (r_e2 (r_e2 (r_var (v := .int (p2.fold + p2.count * 7907 + 43)) rfl rfl) r_c (v_pow hb)) r_c (v_mod (by decide))) r_aN) rfl) r_c (v_fdv (by decide) (PyProof.noPylong_small (by decide)))) (r_var (v := .int many) rfl rfl) (v_mod hne)
/-- THE DRAW: some number from 0 to many - 1, the pen a little on -/
theorem draw_ok (h : st[i]? = some (.dct (penK p))) (hs : Sb st.length st) (hp : PenOk p c) (hc : c < 2 ^ 40) (hm : 0 < many) (hd : ∀ x, Builtin.divisionGoesByPylong x many = false) :
    ∃ r p', 0 ≤ r ∧ r < many ∧ PenOk p' (c + 1) ∧ p'.cells = p.cells ∧ drawM [.m i, .int many] st = .ok (.int r) (pst st i p') := by
  have hi : i < st.length := (List.getElem?_eq_some_iff.mp h).1
  obtain ⟨r, p', h1, h2, h3, h4, e⟩ := draw_body (many := many) hi hp hc hm hd
  refine ⟨r, p', h1, h2, h3, h4, ?_⟩
  rw [pst_self h] at e
  show (match drawS [some (.m i), some (.int many), none, none, none] st with
    | .rt v st' => finV st.length v st'
    | .nx _ st' => finV st.length .non st'
    | .err c fs _ st' => finE st.length c fs st'
    | _ => .bad) = _
  rw [e]
  have hb : belowM st.length (.dct (penK p')) = true := by
    show belowK st.length (penK p') = true
    have : ∀ l : List Int, belows st.length (l.map PV.int) = true := fun l => by
      induction l with
      | nil => rfl
      | cons x l ih =>
        show (below st.length (.int x) && belows st.length (l.map PV.int)) = true
        rw [ih]
        rfl
    show (below st.length (.lst (p'.cells.map .int)) && _) = true
    have e1 : below st.length (.lst (p'.cells.map .int)) = true := this _
    rw [e1]
    rfl
  have := finV_below (v := .int r) (st := pst st i p') (n := st.length) rfl (Sb.set hs hb)
  dsimp only
  rw [this]
  congr 1
  rw [List.take_of_length_le (by rw [pst_len]; exact Nat.le_refl _)]
end
end L3
/-! L3R: pen, pick, far of the laws. -/
namespace L3
open PySem PySem.Spec PyProof.Rows L2
mutual
theorem below_mono {n k : Nat} (hk : n ≤ k) : ∀ {v : PV}, below n v = true → below k v = true
  | .tup xs, h => by
    unfold below at h ⊢
    exact belows_mono hk h
  | .lst xs, h => by
    unfold below at h ⊢
    exact belows_mono hk h
  | .ro xs, h => by
    unfold below at h ⊢
    exact belows_mono hk h
  | .dct xs, h => by
    unfold below at h ⊢
    exact belowK_mono hk h
  | .ins c xs, h => by
    unfold below at h ⊢
    exact belowF_mono hk h
  | .exc c xs, h => by
    unfold below at h ⊢
    exact belowF_mono hk h
  | .m i, h => by
    unfold below at h ⊢
    exact decide_eq_true (Nat.lt_of_lt_of_le (of_decide_eq_true h) hk)
  | .non, _ => by unfold below; rfl
  | .bl _, _ => by unfold below; rfl
  | .int _, _ => by unfold below; rfl
  | .str _, _ => by unfold below; rfl
  | .fn _, _ => by unfold below; rfl
  | .cls _, _ => by unfold below; rfl
  | .ty _, _ => by unfold below; rfl
theorem belows_mono {n k : Nat} (hk : n ≤ k) : ∀ {v : List PV}, belows n v = true → belows k v = true
  | [], _ => by unfold belows; rfl
  | x :: xs, h => by
    unfold belows at h ⊢
    obtain ⟨h1, h2⟩ := Bool.and_eq_true_iff.mp h
    rw [below_mono hk h1, belows_mono hk h2]
    rfl
theorem belowK_mono {n k : Nat} (hk : n ≤ k) : ∀ {v : List (Key × PV)}, belowK n v = true → belowK k v = true
  | [], _ => by unfold belowK; rfl
  | (_, x) :: xs, h => by
    unfold belowK at h ⊢
    obtain ⟨h1, h2⟩ := Bool.and_eq_true_iff.mp h
    rw [below_mono hk h1, belowK_mono hk h2]
    rfl
theorem belowF_mono {n k : Nat} (hk : n ≤ k) : ∀ {v : List (Nat × PV)}, belowF n v = true → belowF k v = true
  | [], _ => by unfold belowF; rfl
  | (_, x) :: xs, h => by
    unfold belowF at h ⊢
    obtain ⟨h1, h2⟩ := Bool.and_eq_true_iff.mp h
    rw [below_mono hk h1, belowF_mono hk h2]
    rfl
end
/-- data alone -/
abbrev plain (v : PV) : Prop := below 0 v = true
theorem plain.norm {v : PV} (h : plain v) (st : Sto) : normV st v = v := by
  cases v with
  | m i =>
    have : decide (i < 0) = true := h
    simp at this
  | _ => rfl
theorem plain.b {v : PV} (h : plain v) (n : Nat) : below n v = true := below_mono (Nat.zero_le _) h
theorem belows_of {n : Nat} : ∀ {xs : List PV}, (∀ x ∈ xs, below n x = true) → belows n xs = true
  | [], _ => by unfold belows; rfl
  | x :: xs, h => by
    unfold belows
    rw [h x (List.mem_cons_self ..), belows_of fun y hy => h y (List.mem_cons_of_mem _ hy)]
    rfl
theorem of_belows {n : Nat} : ∀ {xs : List PV}, belows n xs = true → ∀ x ∈ xs, below n x = true
  | [], _, x, hx => nomatch hx
  | y :: ys, h, x, hx => by
    unfold belows at h
    obtain ⟨h1, h2⟩ := Bool.and_eq_true_iff.mp h
    rcases List.mem_cons.mp hx with e | e
    · rw [e]
      exact h1
    · exact of_belows h2 x e
theorem plain_ints (l : List Int) : belows 0 (l.map PV.int) = true := belows_of fun x hx => by
  obtain ⟨i, _, rfl⟩ := List.mem_map.mp hx
  rfl
theorem pen_below (p : Pen) (n : Nat) : belowM n (.dct (penK p)) = true := by
  show (below n (.lst (p.cells.map .int)) && _) = true
  have e1 : below n (.lst (p.cells.map .int)) = true := below_mono (Nat.zero_le _) (show belows 0 (p.cells.map PV.int) = true from plain_ints _)
  rw [e1]
  rfl
theorem PenOk.mono {p : Pen} {c c' : Nat} (h : PenOk p c) (hc : c ≤ c') : PenOk p c' := ⟨h.at0, h.dg, h.ct0, by have := h.ct; omega, h.fd0, h.fd⟩
theorem Sb.pst {n i : Nat} {st : Sto} {p : Pen} (h : Sb n st) : Sb n (pst st i p) := h.set (pen_below p n)
theorem Sb.pst' {i : Nat} {st : Sto} {p : Pen} (h : Sb st.length st) : Sb (L3.pst st i p).length (L3.pst st i p) := by
  rw [pst_len]
  exact h.pst
theorem pst_at' {st : Sto} {i : Nat} {p q : Pen} (h : st[i]? = some (.dct (penK q))) : (pst st i p)[i]? = some (.dct (penK p)) := pst_at (List.getElem?_eq_some_iff.mp h).1
theorem pst_pst {st : Sto} {i : Nat} {p q : Pen} : pst (pst st i p) i q = pst st i q := List.set_set ..
/-! ### loops -/
section
variable {t : CT} {body : SM} {x : PV} {xs : List PV} {ρ ρ1 ρ2 : Rho} {st st2 : Sto} {R : SRes}
theorem for_nil : forS t body [] ρ st = .nx ρ st := rfl
theorem for_cons (ha : asgP st t x ρ = some ρ1) (hb : body ρ1 st = .nx ρ2 st2) (hr : forS t body xs ρ2 st2 = R) : forS t body (x :: xs) ρ st = R := by
  show (match asgP st t x ρ with
    | none => .bad
    | some ρ1 => match body ρ1 st with
      | .nx ρ2 st2 => forS t body xs ρ2 st2
      | .ct ρ2 st2 => forS t body xs ρ2 st2
      | .bk ρ2 st2 => .nx ρ2 st2
      | r => r) = R
  rw [ha]
  dsimp only
  rw [hb]
  exact hr
theorem for_run {mi : Rho → M (List PV)} (hi : mi ρ st = .ok xs st2) (h : forS t body xs ρ st2 = R) : sFor t mi body ρ st = R := by
  unfold sFor
  rw [hi]
  exact h
theorem asg_nm {i : Nat} : asgP st (.nm i) x ρ = some (ρ.set i (some x)) := by
  unfold asgP
  rfl
end
theorem run_rt {np ns : Nat} {b : SM} {args : List PV} {st st' : Sto} {v : PV} (hl : args.length = np) (h : b (args.map some ++ List.replicate (ns - args.length) none) st = .rt v st') (hv : below st.length v = true) (hs : Sb st.length st') :
    runBody false np ns b args st = .ok v (st'.take st.length) := by
  unfold runBody
  rw [decide_eq_true hl]
  dsimp only
  rw [h]
  exact finV_below hv hs
theorem newL_f {xs : List PV} {st : Sto} (h : xs.length ≤ 16777216) : newL false xs st = .ok (.lst xs) st := by
  unfold newL lineOk
  rw [Nat.ble_eq_true_of_le h]
theorem newL_t {xs : List PV} {st : Sto} (h : xs.length ≤ 16777216) : newL true xs st = .ok (.m st.length) (st ++ [.lst xs]) := by
  unfold newL lineOk
  rw [Nat.ble_eq_true_of_le h]
theorem r_dct {mu : Bool} {ks : List Key} {mr : Rho → M (List PV)} {ρ : Rho} {st st1 : Sto} {vs : List PV} {R : Res PV} (hr : mr ρ st = .ok vs st1) (h : newD mu (dispP ks vs) st1 = R) : eDct mu ks mr ρ st = R := by
  show ((mr ρ st).andThen fun vs => newD mu (dispP ks vs)) = _
  rw [hr]
  exact h
/-! ### the pen -/
def penS : SM := (sSeq (sAsg (.nm 1) (eC (.int 0)))
    (sSeq (sFor (.nm 2) (iV (getV 0)) (sSeq (sAsg (.nm 1) (e2 (binV .Mod false) (eA (one1 intV) (aC (e2 (binV .Add false) (e2 (binV .Mult false) (getV 1) (eC (.int 47))) (getV 2)) aN)) (eC (.int 1000000007))))
    sSkip))
    (sSeq (sRet (eDct true [Sum.inr "cells", Sum.inr "at", Sum.inr "digits", Sum.inr "count", Sum.inr "fold"] (aC (eA (one1 (listV false)) (aC (getV 0) aN)) (aC (eC (.int 0)) (aC (eC (.int 0)) (aC (eC (.int 0)) (aC (getV 1) aN)))))))
    sSkip)))
def penM : List PV → M PV := runBody true 1 3 penS
theorem pen_loop {a : PV} {st : Sto} : ∀ (ns : List Int) (f : Int) (z : Option PV), 0 ≤ f → f < 4294967296 → ∃ f' z', 0 ≤ f' ∧ f' < 4294967296 ∧
    forS (.nm 2) (sSeq (sAsg (.nm 1) (e2 (binV .Mod false) (eA (one1 intV) (aC (e2 (binV .Add false) (e2 (binV .Mult false) (getV 1) (eC (.int 47))) (getV 2)) aN)) (eC (.int 1000000007)))) sSkip) (ns.map .int) [some a, some (.int f), z] st = .nx [some a, some (.int f'), z'] st
  | [], f, z, h0, h1 => ⟨f, z, h0, h1, rfl⟩
  | n :: ns, f, z, h0, h1 => by
    obtain ⟨f', z', q0, q1, e⟩ := pen_loop (a := a) (st := st) ns ((f * 47 + n).fmod 1000000007) (some (.int n)) (Int.fmod_nonneg_of_pos _ (by decide)) (by
      have := Int.fmod_lt_of_pos (f * 47 + n) (b := 1000000007) (by decide)
      omega)
    refine ⟨f', z', q0, q1, for_cons asg_nm (r_seq (r_asg (r_e2 (r_eA (r_aC (r_e2 (r_e2 (r_var (v := .int f) rfl rfl) r_c (v_mul (mulOk_small (by decide)))) (r_var (v := .int n) rfl rfl) v_add) r_aN) rfl) r_c (v_mod (by decide)))) r_skip) e⟩
theorem pen_ok {ns : List Int} {st : Sto} (hl : ns.length ≤ 16777216) (hs : Sb st.length st) : ∃ p, PenOk p 0 ∧ p.cells = ns ∧ penM [.ro (ns.map .int)] st = .ok (.m st.length) (st ++ [.dct (penK p)]) := by
  obtain ⟨f, z, h0, h1, e⟩ := pen_loop (a := .ro (ns.map .int)) (st := st) ns 0 none (by decide) (by decide)
  refine ⟨⟨ns, 0, 0, 0, f⟩, ⟨Int.le_refl _, Int.le_refl _, Int.le_refl _, Int.le_refl _, h0, h1⟩, rfl, ?_⟩
  have hb : penS [some (.ro (ns.map .int)), none, none] st = .rt (.m st.length) (st ++ [.dct (penK ⟨ns, 0, 0, 0, f⟩)]) := by
    refine r_seq (r_asg r_c) (r_seq (for_run (r_iV (r_var (v := .ro (ns.map .int)) rfl rfl) rfl) e) (r_seqR (r_ret ?_)))
    exact r_dct (r_aC (r_eA (r_aC (r_var (v := .ro (ns.map .int)) rfl rfl) r_aN) (newL_f (xs := ns.map .int) (by rw [List.length_map]; exact hl))) (r_aC r_c (r_aC r_c (r_aC r_c (r_aC (r_var (v := .int f) rfl rfl) r_aN))))) rfl
  show (match penS [some (.ro (ns.map .int)), none, none] st with
    | .rt v st' => finK st.length v st'
    | .nx _ st' => finV st.length .non st'
    | .err c fs _ st' => finE st.length c fs st'
    | _ => .bad) = _
  rw [hb]
  dsimp only
  rw [finK_dct (Nat.le_refl _) (kvs := penK ⟨ns, 0, 0, 0, f⟩) (by rw [List.getElem?_append_right (Nat.le_refl _), Nat.sub_self]; rfl) (pen_below _ _) (hs.app (Nat.le_refl _)), List.take_left]
/-! ### pick -/
def pickS : SM := (sSeq (sRet (e2 subV (getV 1) (eA drawM (aC (getV 0) (aC (eA (one1 lenV) (aC (getV 1) aN)) aN)))))
    sSkip)
def pickM : List PV → M PV := runBody false 2 2 pickS
section
variable {st : Sto} {i : Nat} {p : Pen} {c : Nat} {xs : List PV}
theorem r_m' {ρ : Rho} (h : st[i]? = some (.dct (penK p))) {j : Nat} (hρ : ρ[j]? = some (some (.m i))) : getV j ρ st = .ok (.m i) st := by
  refine r_var hρ ?_
  unfold normV
  dsimp only
  rw [h]
theorem take_all {st st' : Sto} (h : st'.length = st.length) : st'.take st.length = st' := List.take_of_length_le (by omega)
theorem pick_ok (h : st[i]? = some (.dct (penK p))) (hs : Sb st.length st) (hp : PenOk p c) (hc : c < 2 ^ 40) (hx : ∀ x ∈ xs, plain x) (h0 : 0 < xs.length) (h1 : xs.length < 1073741824) :
    ∃ x p', x ∈ xs ∧ PenOk p' (c + 1) ∧ pickM [.m i, .lst xs] st = .ok x (pst st i p') := by
  obtain ⟨r, p', r0, r1, hp', _, e⟩ := draw_ok (many := xs.length) h hs hp hc (by omega) fun x => PyProof.noPylong_small (by omega)
  have hr : r.toNat < xs.length := by omega
  refine ⟨xs[r.toNat], p', List.getElem_mem hr, hp', ?_⟩
  have hpl : plain xs[r.toNat] := hx _ (List.getElem_mem hr)
  have hsub : subV (.lst xs) (.int r) (pst st i p') = .ok xs[r.toNat] (pst st i p') := by
    show (match atP xs r with | some x => Res.ok (normV (pst st i p') x) (pst st i p') | none => .bad) = _
    have : atP xs r = some xs[r.toNat] := atI_ok r0 (List.getElem?_eq_getElem hr)
    rw [this]
    dsimp only
    rw [hpl.norm]
  have := run_rt (np := 2) (ns := 2) (b := pickS) (args := [.m i, .lst xs]) rfl (r_seqR (r_ret (r_e2 (r_var (v := .lst xs) rfl rfl) (r_eA (r_aC (r_m' h rfl) (r_aC (r_eA (r_aC (r_var (v := .lst xs) rfl rfl) r_aN) lenV_lst) r_aN)) e) hsub))) (hpl.b _) hs.pst
  rw [take_all pst_len] at this
  exact this
end
/-! ### far -/
def farS : SM := (sSeq (sAsg (.nm 1) (eC (.int 0)))
    (sSeq (sFor (.nm 2) (iA range1 (aC (eA pickM (aC (getV 0) (aC (eA (newL false) (aC (eC (.int 0)) (aC (eC (.int 1)) (aC (eC (.int 1)) (aC (eC (.int 2)) (aC (eC (.int 6)) aN)))))) aN))) aN)) (sSeq (sAsg (.nm 1) (e2 (binV .Add false) (e2 (binV .Mult false) (getV 1) (eC (.int 1000))) (eA drawM (aC (getV 0) (aC (eC (.int 1000)) aN)))))
    sSkip))
    (sSeq (sRet (eIf (tCmpM .Gt (eA drawM (aC (getV 0) (aC (eC (.int 3)) aN))) (eC (.int 0))) (getV 1) (e1 negV (getV 1))))
    sSkip)))
def farM : List PV → M PV := runBody false 1 3 farS
section
variable {st : Sto} {i : Nat} {p : Pen} {c : Nat}
theorem far_loop (hs : Sb st.length st) (hi : i < st.length) : ∀ (k : Nat) (ks : List PV) (f : Int) (z : Option PV) (p : Pen) (c : Nat), ks.length = k → PenOk p c → c + k < 2 ^ 40 → 0 ≤ f → ∀ m : Nat, f < 1000 ^ m →
    ∃ f' z' p', 0 ≤ f' ∧ f' < 1000 ^ (m + k) ∧ PenOk p' (c + k) ∧
      forS (.nm 2) (sSeq (sAsg (.nm 1) (e2 (binV .Add false) (e2 (binV .Mult false) (getV 1) (eC (.int 1000))) (eA drawM (aC (getV 0) (aC (eC (.int 1000)) aN))))) sSkip) ks [some (.m i), some (.int f), z] (pst st i p) = .nx [some (.m i), some (.int f'), z'] (pst st i p')
  | 0, [], f, z, p, c, _, hp, _, h0, m, h1 => ⟨f, z, p, h0, h1, hp, rfl⟩
  | k + 1, x :: ks, f, z, p, c, hk, hp, hc, h0, m, h1 => by
    obtain ⟨r, p1, r0, r1, hp1, _, e⟩ := draw_ok (many := 1000) (pst_at hi) hs.pst' hp (by omega) (by decide) fun x => PyProof.noPylong_small (by decide)
    rw [pst_pst] at e
    have h2 : f * 1000 + r < 1000 ^ (m + 1) := by
      rw [Int.pow_succ]
      omega
    obtain ⟨f', z', p', q0, q1, hp', e'⟩ := far_loop hs hi k ks (f * 1000 + r) (some x) p1 (c + 1) (by simpa using hk) hp1 (by omega) (by omega) (m + 1) h2
    refine ⟨f', z', p', q0, by rw [show m + (k + 1) = m + 1 + k by omega]; exact q1, by rw [show c + (k + 1) = c + 1 + k by omega]; exact hp', for_cons asg_nm (r_seq (r_asg (r_e2 (r_e2 (r_var (v := .int f) rfl rfl) r_c (v_mul (mulOk_small (by decide)))) (r_eA (r_aC (r_m' (pst_at hi) rfl) (r_aC r_c r_aN)) e) v_add)) r_skip) e'⟩
theorem range1_ok {n : Int} {st : Sto} (h : rngOk n = true) : range1 [.int n] st = .ok (rangeV 0 n) st := by
  show (match rngOk n with | true => M.pure (rangeV 0 n) | false => M.bad) st = _
  rw [h]
  rfl
theorem far_ok (h : st[i]? = some (.dct (penK p))) (hs : Sb st.length st) (hp : PenOk p c) (hc : c + 10 < 2 ^ 40) : ∃ f p', -(10 ^ 18) < f ∧ f < 10 ^ 18 ∧ PenOk p' (c + 8) ∧ farM [.m i] st = .ok (.int f) (pst st i p') := by
  have hi : i < st.length := (List.getElem?_eq_some_iff.mp h).1
  obtain ⟨x, p1, hx, hp1, e1⟩ := pick_ok (xs := [.int 0, .int 1, .int 1, .int 2, .int 6]) h hs hp (by omega) (by intro x hx; simp at hx; rcases hx with rfl | rfl | rfl | rfl <;> rfl) (by decide) (by decide)
  have hn : ∃ n : Nat, x = .int n ∧ n ≤ 6 := by
    simp at hx
    rcases hx with rfl | rfl | rfl | rfl
    · exact ⟨0, rfl, by decide⟩
    · exact ⟨1, rfl, by decide⟩
    · exact ⟨2, rfl, by decide⟩
    · exact ⟨6, rfl, by decide⟩
  obtain ⟨n, rfl, hn6⟩ := hn
  have hrl : (rangeV 0 n).length = n := by
    unfold rangeV
    rw [List.length_map, List.length_range]
    omega
  obtain ⟨f, z, p2, f0, f1, hp2, e2'⟩ := far_loop hs hi n (rangeV 0 n) 0 none p1 (c + 1) hrl hp1 (by omega) (by decide) 0 (by decide)
  obtain ⟨r, p3, r0, r1, hp3, _, e3⟩ := draw_ok (many := 3) (pst_at (p := p2) hi) hs.pst' hp2 (by omega) (by decide) fun x => PyProof.noPylong_small (by decide)
  rw [pst_pst] at e3
  have f2 : f < 10 ^ 18 := by
    have h6 : (1000 : Int) ^ (0 + n) ≤ 10 ^ 18 := by
      have : n = 0 ∨ n = 1 ∨ n = 2 ∨ n = 3 ∨ n = 4 ∨ n = 5 ∨ n = 6 := by omega
      rcases this with rfl | rfl | rfl | rfl | rfl | rfl | rfl <;> decide
    omega
  have e18 : (10 : Int) ^ 18 = 1000000000000000000 := by decide
  have hrng : rngOk (n : Int) = true := by
    unfold rngOk
    rw [decide_eq_true (by have : (2 : Int) ^ 62 = 4611686018427387904 := by decide
                           omega), decide_eq_true (by have : (2 : Int) ^ 62 = 4611686018427387904 := by decide
                                                      omega)]
    rfl
  have body : ∀ g : Int, (if 0 < r then f else -f) = g → farS [some (.m i), none, none] st = .rt (.int g) (pst st i p3) := by
    intro g hg
    refine r_seq (r_asg r_c) (r_seq (for_run (r_iA (r_aC (r_eA (r_aC (r_m' h rfl) (r_aC (r_eA (r_aC r_c (r_aC r_c (r_aC r_c (r_aC r_c (r_aC r_c r_aN))))) (newL_f (by decide))) r_aN)) e1) r_aN) (range1_ok hrng)) e2') (r_seqR (r_ret ?_)))
    by_cases hr : 0 < r
    · rw [if_pos hr] at hg
      subst hg
      exact r_ifT (r_cmp (r_eA (r_aC (r_m' (pst_at hi) rfl) (r_aC r_c r_aN)) e3) r_c (v_gtT hr)) (r_var (v := .int f) rfl rfl)
    · rw [if_neg hr] at hg
      subst hg
      exact r_ifF (r_cmp (r_eA (r_aC (r_m' (pst_at hi) rfl) (r_aC r_c r_aN)) e3) r_c (v_gtF hr)) (r_e1 (r_var (v := .int f) rfl rfl) rfl)
  refine ⟨if 0 < r then f else -f, p3, ?_, ?_, hp3.mono (by omega), ?_⟩
  · split <;> omega
  · split <;> omega
  · have := run_rt (np := 1) (ns := 3) (b := farS) (args := [.m i]) rfl (body _ rfl) rfl hs.pst
    rw [take_all pst_len] at this
    exact this
end
end L3
/-! K00P: the law of the errors, at every script. -/
namespace L3
open PySem PySem.Spec PyProof.Rows L2
theorem e_draw : m__law_draw = drawM := rfl
theorem e_pick : m__law_pick = pickM := rfl
theorem e_far : m__law_far = farM := rfl
theorem e_pen : m__law_pen = penM := rfl
/-! ### what is given -/
def Shw (d : PyData) : Prop := d.showable = true ∧ d.leavesShort 2000 = true ∧ d.weight ≤ 2200 ∧ d.depth ≤ 5
def Giv (g : PV) : Prop := plain g ∧ ∃ d, dataR 11 g = some d ∧ Shw d
def opts (f : Int) : List PV := [.int f, .int (-f), .str ("x" ++ toString f), .non, .tup [.int f, .str "a"], .lst [.int f, .non], .bl true, .str "", .dct [(Sum.inr "a", .int f)]]
theorem log_small {f : Int} (h1 : -(10 ^ 18) < f) (h2 : f < 10 ^ 18) : f.natAbs.log2 < 60 := by
  have e18 : (10 : Int) ^ 18 = 1000000000000000000 := by decide
  by_cases h0 : f.natAbs = 0
  · rw [h0]
    decide
  · rw [Nat.log2_lt h0]
    have e60 : (2 : Nat) ^ 60 = 1152921504606846976 := by decide
    omega
theorem shw_int {f : Int} (h1 : -(10 ^ 18) < f) (h2 : f < 10 ^ 18) : Shw (.int f) := by
  have hl := log_small h1 h2
  have ht := PyProof.Rows.int_text_len_1921 (i := f) (by omega)
  refine ⟨?_, ?_, ?_, ?_⟩
  · simp only [PyData.showable]
    exact decide_eq_true (by omega)
  · simp only [PyData.leavesShort, PyData.shown]
    exact decide_eq_true (Nat.le_trans ht (by decide))
  · simp only [PyData.weight]
    split <;> omega
  · simp [PyData.depth]
theorem txt_small (f : Int) : ∀ c ∈ (("x" : Str) ++ (toString f : Str)).cps.toList, c < 16 ^ 8 := by
  intro c hc
  have e : (("x" : Str) ++ (toString f : Str)).cps.toList = 120 :: (Str.ofString (toString f)).cps.toList := by
    show (("x" : Str).cps ++ (Str.ofString (toString f)).cps).toList = _
    rw [Array.toList_append]
    rfl
  rw [e] at hc
  rcases List.mem_cons.mp hc with h | h
  · rw [h]
    decide
  · rw [signs_ofString] at h
    obtain ⟨ch, _, rfl⟩ := List.mem_map.mp h
    have := ch.valid
    have h16 : (16 : Nat) ^ 8 = 4294967296 := by decide
    rw [h16]
    exact ch.val.toNat_lt
theorem shw_txt {f : Int} (h1 : -(10 ^ 18) < f) (h2 : f < 10 ^ 18) : Shw (.str ("x" ++ toString f)) := by
  have ht := PyProof.Rows.int_text_len_1921 (i := f) (by have := log_small h1 h2; omega)
  refine ⟨by simp [PyData.showable], ?_, ?_, by simp [PyData.depth]⟩
  · simp only [PyData.leavesShort]
    rw [List.all_eq_true]
    intro c hc
    exact decide_eq_true (txt_small f c hc)
  · simp only [PyData.weight]
    show (("x" : Str).cps ++ (Str.ofString (toString f)).cps).size ≤ 2200
    rw [Array.size_append]
    have e : (Str.ofString (toString f)).cps.size ≤ 1921 := ht
    have e1 : ("x" : Str).cps.size = 1 := rfl
    omega
theorem giv_opts {f : Int} (h1 : -(10 ^ 18) < f) (h2 : f < 10 ^ 18) : ∀ x ∈ opts f, Giv x := by
  have hi := shw_int h1 h2
  have hn := shw_int (f := -f) (by omega) (by omega)
  have hx := shw_txt h1 h2
  obtain ⟨i1, i2, i3, i4⟩ := hi
  intro x hx'
  unfold opts at hx'
  simp only [List.mem_cons, List.not_mem_nil, or_false] at hx'
  have sa : ("a" : Str).cps.size = 1 := rfl
  have la : (("a" : Str).cps.toList.all fun c => decide (c < 16 ^ 8)) = true := by decide
  rcases hx' with rfl | rfl | rfl | rfl | rfl | rfl | rfl | rfl | rfl
  · exact ⟨rfl, _, rfl, i1, i2, i3, i4⟩
  · exact ⟨rfl, _, rfl, hn⟩
  · exact ⟨rfl, _, rfl, hx⟩
  · exact ⟨rfl, _, rfl, by simp [PyData.showable], by simp [PyData.leavesShort], by simp [PyData.weight], by simp [PyData.depth]⟩
  · refine ⟨rfl, .tuple [.int f, .str "a"], rfl, ?_, ?_, ?_, ?_⟩
    · simp only [PyData.showable, PyData.showableAll, Bool.and_true]
      exact i1
    · simp only [PyData.leavesShort, PyData.leavesShortAll, Bool.and_true]
      simp only [PyData.leavesShort] at i2
      rw [i2, la]
      rfl
    · simp only [PyData.weight, PyData.weightAll, sa]
      simp only [PyData.weight] at i3
      have hl := log_small h1 h2
      split <;> omega
    · simp [PyData.depth, PyData.depthAll]
  · refine ⟨rfl, .list [.int f, .none], rfl, ?_, ?_, ?_, ?_⟩
    · simp only [PyData.showable, PyData.showableAll, Bool.and_true]
      exact i1
    · simp only [PyData.leavesShort, PyData.leavesShortAll, Bool.and_true]
      simp only [PyData.leavesShort] at i2
      exact i2
    · simp only [PyData.weight, PyData.weightAll]
      have hl := log_small h1 h2
      split <;> omega
    · simp [PyData.depth, PyData.depthAll]
  · exact ⟨rfl, _, rfl, by simp [PyData.showable], by simp [PyData.leavesShort], by simp [PyData.weight], by simp [PyData.depth]⟩
  · refine ⟨rfl, .str "", rfl, by simp [PyData.showable], ?_, ?_, by simp [PyData.depth]⟩
    · simp only [PyData.leavesShort]
      decide
    · simp only [PyData.weight]
      decide
  · refine ⟨rfl, .dict [(.str "a", .int f)], rfl, ?_, ?_, ?_, ?_⟩
    · simp only [PyData.showable, PyData.showableKv, Bool.and_true, Bool.true_and]
      exact i1
    · simp only [PyData.leavesShort, PyData.leavesShortKv, Bool.and_true]
      simp only [PyData.leavesShort] at i2
      rw [i2, la]
      rfl
    · simp only [PyData.weight, PyData.weightKv, sa]
      have hl := log_small h1 h2
      split <;> omega
    · simp [PyData.depth, PyData.depthKv]
/-- what repr shows of a list of these -/
theorem repr_list {gs : List PV} (h : ∀ g ∈ gs, Giv g) (hl : gs.length ≤ 2) : ∃ z, ∀ st, reprV (.lst gs) st = .ok (.str z) st := by
  have hd : ∃ ds, gs.mapM (dataR 11) = some ds ∧ (∀ d ∈ ds, Shw d) ∧ ds.length ≤ 2 := by
    match gs, hl, h with
    | [], _, _ => exact ⟨[], rfl, by simp, by simp⟩
    | [g], _, h =>
      obtain ⟨_, d, e, s⟩ := h g (by simp)
      exact ⟨[d], by simp [List.mapM_cons, e], by simpa using s, by simp⟩
    | [g, k], _, h =>
      obtain ⟨_, d, e, s⟩ := h g (by simp)
      obtain ⟨_, d', e', s'⟩ := h k (by simp)
      refine ⟨[d, d'], by simp [List.mapM_cons, e, e'], ?_, by simp⟩
      intro x hx
      simp only [List.mem_cons, List.not_mem_nil, or_false] at hx
      rcases hx with rfl | rfl
      · exact s
      · exact s'
    | _ :: _ :: _ :: _, hl, _ => simp at hl
  obtain ⟨ds, hm, hs, hdl⟩ := hd
  have sh : (PyData.list ds).showable = true ∧ (PyData.list ds).leavesShort 2000 = true ∧ (PyData.list ds).weight ≤ 4500 ∧ (PyData.list ds).depth ≤ 6 := by
    match ds, hdl, hs with
    | [], _, _ => exact ⟨by simp [PyData.showable, PyData.showableAll], by simp [PyData.leavesShort, PyData.leavesShortAll], by simp [PyData.weight, PyData.weightAll], by simp [PyData.depth, PyData.depthAll]⟩
    | [d], _, hs =>
      obtain ⟨a, b, c, e⟩ := hs d (by simp)
      refine ⟨by simp [PyData.showable, PyData.showableAll, a], by simp [PyData.leavesShort, PyData.leavesShortAll, b], ?_, ?_⟩
      · simp only [PyData.weight, PyData.weightAll]
        omega
      · simp only [PyData.depth, PyData.depthAll]
        omega
    | [d, d'], _, hs =>
      obtain ⟨a, b, c, e⟩ := hs d (by simp)
      obtain ⟨a', b', c', e'⟩ := hs d' (by simp)
      refine ⟨by simp [PyData.showable, PyData.showableAll, a, a'], by simp [PyData.leavesShort, PyData.leavesShortAll, b, b'], ?_, ?_⟩
      · simp only [PyData.weight, PyData.weightAll]
        omega
      · simp only [PyData.depth, PyData.depthAll]
        omega
    | _ :: _ :: _ :: _, hdl, _ => simp at hdl
  obtain ⟨s1, s2, s3, s4⟩ := sh
  have hlen := PyData.shown_le 2000 (by decide) (.list ds) s2
  refine ⟨(PyData.list ds).shown, fun st => ?_⟩
  show (match (some (PV.lst gs)).bind fun w => if isRef w then dataR 12 w else none with
    | some d => (match d.showable && (lineOk d.shown.length && Nat.ble d.depth 64) with
      | true => Res.ok (PV.str d.shown) st
      | false => .bad)
    | none => .bad) = _
  have e1 : dataR 12 (.lst gs) = some (.list ds) := by
    show (gs.mapM (dataR 11)).map PyData.list = _
    rw [hm]
    rfl
  rw [Option.bind_some]
  have e2 : (if isRef (.lst gs) = true then dataR 12 (.lst gs) else none) = some (.list ds) := by
    rw [if_pos (show isRef (.lst gs) = true from rfl), e1]
  rw [e2]
  dsimp only
  rw [s1]
  have e3 : lineOk (PyData.list ds).shown.length = true := Nat.ble_eq_true_of_le (by
    have : (2000 + 2) * (PyData.list ds).weight ≤ 2002 * 4500 := Nat.mul_le_mul (by decide) s3
    omega)
  have e4 : Nat.ble (PyData.list ds).depth 64 = true := Nat.ble_eq_true_of_le (by omega)
  rw [e3, e4]
  rfl
/-! ### the errors -/
def rowX (a b : PV) : List PV := [.exc n_BadText [(n_column, a)], .exc n_BadLine [(n_column, b), (n_line, a)], .exc n_BadNumber [(n_number, b), (n_what, a)], .exc n_BadRow [(n_row, a)], .exc n_BadInterval [(n_high, b), (n_low, a)],
  .exc n_BadName [(n_name, a)], .exc n_Unlike [(n_what, a)], .exc n_NoName [(n_name, a)], .exc n_TakenName [(n_name, a)], .exc n_NotKept [(n_witness, b), (n_promise, a)], .exc n_NothingToUndo [], .exc n_NothingToRedo []]
theorem objects_body (a b : PV) (st : Sto) : b__law_objects [some a, some b, none] st = .rt (.lst (rowX (normV st a) (normV st b))) st := by kernel_rfl
theorem row_plain {a b : PV} (ha : plain a) (hb : plain b) : belows 0 (rowX a b) = true := by
  refine belows_of fun x hx => ?_
  have one : ∀ (c f : Nat) (v : PV), plain v → below 0 (.exc c [(f, v)]) = true := fun c f v h => by
    show (below 0 v && true) = true
    rw [h]
    rfl
  have two : ∀ (c f g : Nat) (v w : PV), plain v → plain w → below 0 (.exc c [(f, v), (g, w)]) = true := fun c f g v w h k => by
    show (below 0 v && (below 0 w && true)) = true
    rw [h, k]
    rfl
  unfold rowX at hx
  simp only [List.mem_cons, List.not_mem_nil, or_false] at hx
  rcases hx with rfl | rfl | rfl | rfl | rfl | rfl | rfl | rfl | rfl | rfl | rfl | rfl
  · exact one _ _ _ ha
  · exact two _ _ _ _ _ hb ha
  · exact two _ _ _ _ _ hb ha
  · exact one _ _ _ ha
  · exact two _ _ _ _ _ hb ha
  · exact one _ _ _ ha
  · exact one _ _ _ ha
  · exact one _ _ _ ha
  · exact one _ _ _ ha
  · exact two _ _ _ _ _ hb ha
  · rfl
  · rfl
theorem objects_ok {a b : PV} {st : Sto} (ha : plain a) (hb : plain b) (hs : Sb st.length st) : m__law_objects [a, b] st = .ok (.lst (rowX a b)) st := by
  have h := objects_body a b st
  rw [ha.norm, hb.norm] at h
  have := run_rt (np := 2) (ns := 3) (b := b__law_objects) (args := [a, b]) rfl h (below_mono (Nat.zero_le _) (row_plain ha hb)) hs
  rw [take_all rfl] at this
  exact this
def fieldsX (a b : PV) : List PV := [.lst [a], .lst [a, b], .lst [a, b], .lst [a], .lst [a, b], .lst [a], .lst [a], .lst [a], .lst [a], .lst [a, b], .lst [], .lst []]
theorem fields_body (a b : PV) (st : Sto) : b__law_fields [some (.lst (rowX a b)), none] st = .rt (.lst (fieldsX (normV st a) (normV st b))) st := by kernel_rfl
theorem fields_ok {a b : PV} {st : Sto} (ha : plain a) (hb : plain b) (hs : Sb st.length st) : m__law_fields [.lst (rowX a b)] st = .ok (.lst (fieldsX a b)) st := by
  have h := fields_body a b st
  rw [ha.norm, hb.norm] at h
  have hp : belows 0 (fieldsX a b) = true := by
    refine belows_of fun x hx => ?_
    have one : below 0 (.lst [a]) = true := by
      show (below 0 a && true) = true
      rw [ha]
      rfl
    have two : below 0 (.lst [a, b]) = true := by
      show (below 0 a && (below 0 b && true)) = true
      rw [ha, hb]
      rfl
    unfold fieldsX at hx
    simp only [List.mem_cons, List.not_mem_nil, or_false] at hx
    rcases hx with rfl | rfl | rfl | rfl | rfl | rfl | rfl | rfl | rfl | rfl | rfl | rfl <;> first | exact one | exact two | rfl
  have := run_rt (np := 1) (ns := 2) (b := b__law_fields) (args := [.lst (rowX a b)]) rfl h (below_mono (Nat.zero_le _) hp) hs
  rw [take_all rfl] at this
  exact this
def kindsX (k : Nat) : PV := .lst ((List.range 12).map fun (j : Nat) => .bl (decide (j = k)))
theorem kinds_body (a b : PV) (st : Sto) : ∀ k : Fin 12, b__law_kinds [some ((rowX a b)[k.val]'(k.isLt)), none] st = .rt (kindsX k) st := by
  intro k
  match k with
  | 0 => kernel_rfl
  | 1 => kernel_rfl
  | 2 => kernel_rfl
  | 3 => kernel_rfl
  | 4 => kernel_rfl
  | 5 => kernel_rfl
  | 6 => kernel_rfl
  | 7 => kernel_rfl
  | 8 => kernel_rfl
  | 9 => kernel_rfl
  | 10 => kernel_rfl
  | 11 => kernel_rfl
theorem kinds_plain (k n : Nat) : below n (kindsX k) = true := belows_of fun x hx => by
  obtain ⟨j, _, rfl⟩ := List.mem_map.mp hx
  rfl
theorem kinds_ok {a b : PV} {st : Sto} (hs : Sb st.length st) (k : Fin 12) : m__law_kinds [(rowX a b)[k.val]'(k.isLt)] st = .ok (kindsX k) st := by
  have := run_rt (np := 1) (ns := 2) (b := b__law_kinds) (args := [(rowX a b)[k.val]'(k.isLt)]) rfl (kinds_body a b st k) (kinds_plain _ _) hs
  rw [take_all rfl] at this
  exact this
def isiT : Rho → M Bool := tOrM (tNotM (tV (eA (two2 (isiV tb_LookError [] cxs)) (aC (getV 5) (aC (eC (.cls n_LookError)) aN))))) (tNotM (tV (eA (two2 (isiV tb_ValueError [] cxs)) (aC (getV 5) (aC (eC (.ty "ValueError")) aN)))))
theorem isi_ok (a b : PV) (st : Sto) (z0 z1 z2 z3 z4 z6 z7 z8 z9 : Option PV) (k : Fin 12) : isiT [z0, z1, z2, z3, z4, some ((rowX a b)[k.val]'(k.isLt)), z6, z7, z8, z9] st = .ok false st := by
  match k with
  | 0 => kernel_rfl
  | 1 => kernel_rfl
  | 2 => kernel_rfl
  | 3 => kernel_rfl
  | 4 => kernel_rfl
  | 5 => kernel_rfl
  | 6 => kernel_rfl
  | 7 => kernel_rfl
  | 8 => kernel_rfl
  | 9 => kernel_rfl
  | 10 => kernel_rfl
  | 11 => kernel_rfl
def cmpE : Rho → M PV := compM false (.nm 9) [9] (iA range1 (aC (eA (one1 lenV) (aC (getV 4) aN)) aN)) tYesM (e2 (cmpV .Eq) (getV 9) (getV 3))
theorem cmp_ok (a b : PV) (st : Sto) (z0 z1 z2 z5 z6 z7 z8 z9 : Option PV) (k : Fin 12) : cmpE [z0, z1, z2, some (.int (k.val : Nat)), some (.lst (rowX a b)), z5, z6, z7, z8, z9] st = .ok (kindsX k) st := by
  match k with
  | 0 => kernel_rfl
  | 1 => kernel_rfl
  | 2 => kernel_rfl
  | 3 => kernel_rfl
  | 4 => kernel_rfl
  | 5 => kernel_rfl
  | 6 => kernel_rfl
  | 7 => kernel_rfl
  | 8 => kernel_rfl
  | 9 => kernel_rfl
  | 10 => kernel_rfl
  | 11 => kernel_rfl
theorem ne_ok (st : Sto) (k : Fin 12) : cmpV .NotEq (kindsX k) (kindsX k) st = .ok (.bl false) st := by
  match k with
  | 0 => kernel_rfl
  | 1 => kernel_rfl
  | 2 => kernel_rfl
  | 3 => kernel_rfl
  | 4 => kernel_rfl
  | 5 => kernel_rfl
  | 6 => kernel_rfl
  | 7 => kernel_rfl
  | 8 => kernel_rfl
  | 9 => kernel_rfl
  | 10 => kernel_rfl
  | 11 => kernel_rfl
theorem for_all {t : CT} {body : SM} {st : Sto} (P : Rho → Prop) : ∀ {xs : List PV}, (∀ x ∈ xs, ∀ ρ, P ρ → ∃ ρ1 ρ2, asgP st t x ρ = some ρ1 ∧ body ρ1 st = .nx ρ2 st ∧ P ρ2) → ∀ ρ, P ρ → ∃ ρ', forS t body xs ρ st = .nx ρ' st ∧ P ρ'
  | [], _, ρ, hp => ⟨ρ, rfl, hp⟩
  | x :: xs, h, ρ, hp => by
    obtain ⟨ρ1, ρ2, h1, h2, h3⟩ := h x (List.mem_cons_self ..) ρ hp
    obtain ⟨ρ', h4, h5⟩ := for_all P (fun y hy => h y (List.mem_cons_of_mem _ hy)) ρ2 h3
    exact ⟨ρ', for_cons h1 h2 h4, h5⟩
theorem r_app {o e : Rho → M PV} {ρ : Rho} {st st1 st2 : Sto} {k : Nat} {xs ys : List PV} {v : PV} (ho : o ρ st = .ok (.m k) st1) (hl : st1[k]? = some (.lst xs)) (he : e ρ st1 = .ok v st2) (h2 : st2[k]? = some (.lst ys)) (hn : ys.length + 1 ≤ 16777216) :
    eApp o e ρ st = .ok .non (st2.set k (.lst (ys ++ [v]))) := by
  show ((o ρ st).andThen fun v => M.bind (isLst v) fun _ => M.bind (e ρ) fun w => appV v w) = _
  rw [ho]
  show ((isLst (.m k) st1).andThen fun _ => M.bind (e ρ) fun w => appV (.m k) w) = _
  unfold isLst
  dsimp only
  rw [hl]
  show ((e ρ st1).andThen fun w => appV (.m k) w) = _
  rw [he]
  show appV (.m k) v st2 = _
  unfold appV
  dsimp only
  rw [h2]
  dsimp only
  unfold lineOk
  rw [Nat.ble_eq_true_of_le hn]
/-! ### the law -/
def st2 (p : Pen) (gs : List PV) : Sto := [.dct (penK p), .lst gs]
theorem sb2 {p : Pen} {gs : List PV} (h : ∀ g ∈ gs, plain g) : Sb (st2 p gs).length (st2 p gs) := fun x hx => by
  have hx' : x ∈ st2 p gs := hx
  unfold st2 at hx'
  simp only [List.mem_cons, List.not_mem_nil, or_false] at hx'
  rcases hx' with rfl | rfl
  · exact pen_below _ _
  · exact belows_of fun g hg => (h g hg).b _
theorem r_m1 {p : Pen} {gs : List PV} {ρ : Rho} {j : Nat} (hρ : ρ[j]? = some (some (.m 1))) : getV j ρ (st2 p gs) = .ok (.m 1) (st2 p gs) := r_var hρ rfl
def giveS : SM := (sSeq (sAsg (.nm 8) (eA m__law_far (aC (getV 1) aN)))
    (sSeq (sExpr (eApp (getV 2) (eA m__law_pick (aC (getV 1) (aC (eA (newL false) (aC (getV 8) (aC (e1 negV (getV 8)) (aC (e2 (binV .Add false) (eC (.str "x")) (eA (one1 strV) (aC (getV 8) aN))) (aC (eC .non) (aC (eA newT (aC (getV 8) (aC (eC (.str "a")) aN))) (aC (eA (newL false) (aC (getV 8) (aC (eC .non) aN))) (aC (eC (.bl true)) (aC (eC (.str "")) (aC (eDct false [Sum.inr "a"] (aC (getV 8) aN)) aN)))))))))) aN)))))
    sSkip))
theorem v_adds {a b : Str} {st : Sto} {mu : Bool} (h : a.length + b.length ≤ 16777216) : binV .Add mu (.str a) (.str b) st = .ok (.str (a ++ b)) st := by
  show (match lineOk (a.length + b.length) with | true => M.pure (PV.str (a ++ b)) | false => M.bad) st = _
  unfold lineOk
  rw [Nat.ble_eq_true_of_le h]
  rfl
theorem v_str {i : Int} {st : Sto} (h : i.natAbs.log2 < 1920) : one1 strV [.int i] st = .ok (.str (toString i)) st := by
  show (match decide (i.natAbs.log2 < 1920) with | true => M.pure (PV.str (toString i)) | false => M.bad) st = _
  rw [decide_eq_true h]
  rfl
theorem give_ok {p : Pen} {gs : List PV} {c : Nat} {z0 z3 z4 z5 z6 z7 z8 z9 : Option PV} (hg : ∀ g ∈ gs, plain g) (hl : gs.length ≤ 100) (hp : PenOk p c) (hc : c + 20 < 2 ^ 40) :
    ∃ f p' g, Giv g ∧ PenOk p' (c + 9) ∧ giveS [z0, some (.m 0), some (.m 1), z3, z4, z5, z6, z7, z8, z9] (st2 p gs) = .nx [z0, some (.m 0), some (.m 1), z3, z4, z5, z6, z7, some (.int f), z9] (st2 p' (gs ++ [g])) := by
  obtain ⟨f, p1, h1, h2, hp1, e1'⟩ := far_ok (st := st2 p gs) (i := 0) rfl (sb2 hg) hp (by omega)
  have gv := giv_opts h1 h2
  obtain ⟨x, p2, hx, hp2, e2'⟩ := pick_ok (st := st2 p1 gs) (i := 0) (xs := opts f) rfl (sb2 hg) hp1 (by omega) (fun x hx => (gv x hx).1) (by show 0 < 9; decide) (by show 9 < 1073741824; decide)
  refine ⟨f, p2, x, gv x hx, hp2.mono (by omega), ?_⟩
  have hv : ∀ {ρ : Rho} {st : Sto}, ρ[8]? = some (some (PV.int f)) → getV 8 ρ st = .ok (.int f) st := fun h => r_var h rfl
  have hlog : f.natAbs.log2 < 1920 := by have := log_small h1 h2; omega
  have hlen : ("x" : Str).length + (toString f : Str).length ≤ 16777216 := by
    have := PyProof.Rows.int_text_len_1921 (i := f) hlog
    have e : ("x" : Str).length = 1 := rfl
    have e2 : (toString f : Str).length = (Str.ofString (toString f)).length := rfl
    omega
  have ho : (eA (newL false) (aC (getV 8) (aC (e1 negV (getV 8)) (aC (e2 (binV .Add false) (eC (.str "x")) (eA (one1 strV) (aC (getV 8) aN))) (aC (eC .non) (aC (eA newT (aC (getV 8) (aC (eC (.str "a")) aN))) (aC (eA (newL false) (aC (getV 8) (aC (eC .non) aN))) (aC (eC (.bl true)) (aC (eC (.str "")) (aC (eDct false [Sum.inr "a"] (aC (getV 8) aN)) aN)))))))))) [z0, some (.m 0), some (.m 1), z3, z4, z5, z6, z7, some (.int f), z9] (st2 p1 gs) = .ok (.lst (opts f)) (st2 p1 gs) :=
    r_eA (r_aC (hv rfl) (r_aC (r_e1 (hv rfl) rfl) (r_aC (r_e2 r_c (r_eA (r_aC (hv rfl) r_aN) (v_str hlog)) (v_adds hlen)) (r_aC r_c (r_aC (r_eA (r_aC (hv rfl) (r_aC r_c r_aN)) rfl) (r_aC (r_eA (r_aC (hv rfl) (r_aC r_c r_aN)) rfl) (r_aC r_c (r_aC r_c (r_aC (r_dct (r_aC (hv rfl) r_aN) rfl) r_aN))))))))) rfl
  refine r_seq (r_asg (r_eA (r_aC (r_m' (st := st2 p gs) (i := 0) (p := p) rfl rfl) r_aN) e1')) (r_seq (r_expr (v := .non) ?_) r_skip)
  exact r_app (st1 := st2 p1 gs) (xs := gs) (r_m1 rfl) rfl (r_eA (r_aC (r_m' (st := st2 p1 gs) (i := 0) (p := p1) rfl rfl) (r_aC ho r_aN)) e2') rfl (by omega)
/-- .. the loops behind it -/
def P1 (z0 : Option PV) (a b : PV) (ρ : Rho) : Prop := ∃ z3 z5 z6 z7 z8 z9, ρ = [z0, some (.m 0), some (.m 1), z3, some (.lst (rowX a b)), z5, z6, z7, z8, z9]
def askS : SM := (sSeq (sIf isiT (sSeq (sRet (eC (.bl false)))
    sSkip) sSkip)
    (sSeq (sIf (tCmpM .NotEq (eA m__law_kinds (aC (getV 5) aN)) cmpE) (sSeq (sRet (eC (.bl false)))
    sSkip) sSkip)
    sSkip))
theorem ask_ok {z0 : Option PV} {a b : PV} {st : Sto} (hs : Sb st.length st) (ρ : Rho) (h : P1 z0 a b ρ) : ∃ ρ', forS (.tup [(.nm 3), (.nm 5)]) askS (enumP (rowX a b)) ρ st = .nx ρ' st ∧ P1 z0 a b ρ' := by
  refine for_all (P1 z0 a b) (fun x hx ρ hp => ?_) ρ h
  obtain ⟨z3, z5, z6, z7, z8, z9, rfl⟩ := hp
  have hk : ∃ k : Fin 12, x = .tup [.int (k.val : Nat), (rowX a b)[k.val]'(k.isLt)] := by
    have e : enumP (rowX a b) = (List.finRange 12).map fun k => PV.tup [.int (k.val : Nat), (rowX a b)[k.val]'(k.isLt)] := by rfl
    rw [e] at hx
    obtain ⟨k, _, rfl⟩ := List.mem_map.mp hx
    exact ⟨k, rfl⟩
  obtain ⟨k, rfl⟩ := hk
  refine ⟨[z0, some (.m 0), some (.m 1), some (.int (k.val : Nat)), some (.lst (rowX a b)), some ((rowX a b)[k.val]'(k.isLt)), z6, z7, z8, z9], [z0, some (.m 0), some (.m 1), some (.int (k.val : Nat)), some (.lst (rowX a b)), some ((rowX a b)[k.val]'(k.isLt)), z6, z7, z8, z9], rfl, ?_, ⟨some (.int (k.val : Nat)), some ((rowX a b)[k.val]'(k.isLt)), z6, z7, z8, z9, rfl⟩⟩
  refine r_seq (r_sif (c := false) (isi_ok a b st _ _ _ _ _ _ _ _ _ k) r_skip) (r_seq (r_sif (c := false) (r_cmp (r_eA (r_aC (r_var (v := (rowX a b)[k.val]'(k.isLt)) (x := (rowX a b)[k.val]'(k.isLt)) rfl ?_) r_aN) (kinds_ok hs k)) (cmp_ok a b st _ _ _ _ _ _ _ _ k) (ne_ok st k)) r_skip) r_skip)
  match k with
  | 0 => rfl
  | 1 => rfl
  | 2 => rfl
  | 3 => rfl
  | 4 => rfl
  | 5 => rfl
  | 6 => rfl
  | 7 => rfl
  | 8 => rfl
  | 9 => rfl
  | 10 => rfl
  | 11 => rfl
def showS : SM := (sSeq (sIf (tCmpM .NotEq (eA (one1 reprV) (aC (getV 6) aN)) (eA (one1 reprV) (aC (eSl false (getV 2) pN (pS (getV 7))) aN))) (sSeq (sRet (eC (.bl false)))
    sSkip) sSkip)
    sSkip)
def manyL : List PV := [.int 1, .int 2, .int 2, .int 1, .int 2, .int 1, .int 1, .int 1, .int 1, .int 2, .int 0, .int 0]
theorem v_nes {z : Str} {st : Sto} : cmpV .NotEq (.str z) (.str z) st = .ok (.bl false) st := by
  show Res.ok (PV.bl (!decide (z = z))) st = _
  rw [decide_eq_true rfl]
  rfl
theorem show_ok {z0 : Option PV} {a b : PV} {p : Pen} (ha : Giv a) (hb : Giv b) (ρ : Rho) (h : P1 z0 a b ρ) : ∃ ρ', forS (.tup [(.nm 6), (.nm 7)]) showS (zipP (fieldsX a b) manyL) ρ (st2 p [a, b]) = .nx ρ' (st2 p [a, b]) ∧ P1 z0 a b ρ' := by
  refine for_all (P1 z0 a b) (fun x hx ρ hp => ?_) ρ h
  obtain ⟨z3, z5, z6, z7, z8, z9, rfl⟩ := hp
  have hk : ∃ (gs : List PV) (n : Int), x = .tup [.lst gs, .int n] ∧ (∀ g ∈ gs, Giv g) ∧ gs.length ≤ 2 ∧ cutP [a, b] none (some n) = gs := by
    have e : zipP (fieldsX a b) manyL = [.tup [.lst [a], .int 1], .tup [.lst [a, b], .int 2], .tup [.lst [a, b], .int 2], .tup [.lst [a], .int 1], .tup [.lst [a, b], .int 2], .tup [.lst [a], .int 1], .tup [.lst [a], .int 1], .tup [.lst [a], .int 1], .tup [.lst [a], .int 1], .tup [.lst [a, b], .int 2], .tup [.lst [], .int 0], .tup [.lst [], .int 0]] := rfl
    rw [e] at hx
    have c1 : ∃ (gs : List PV) (n : Int), PV.tup [.lst [a], .int 1] = .tup [.lst gs, .int n] ∧ (∀ g ∈ gs, Giv g) ∧ gs.length ≤ 2 ∧ cutP [a, b] none (some n) = gs := ⟨[a], 1, rfl, by simpa using ha, by simp, rfl⟩
    have c2 : ∃ (gs : List PV) (n : Int), PV.tup [.lst [a, b], .int 2] = .tup [.lst gs, .int n] ∧ (∀ g ∈ gs, Giv g) ∧ gs.length ≤ 2 ∧ cutP [a, b] none (some n) = gs := ⟨[a, b], 2, rfl, by
      intro g hg
      simp only [List.mem_cons, List.not_mem_nil, or_false] at hg
      rcases hg with rfl | rfl
      · exact ha
      · exact hb, by simp, rfl⟩
    have c0 : ∃ (gs : List PV) (n : Int), PV.tup [.lst [], .int 0] = .tup [.lst gs, .int n] ∧ (∀ g ∈ gs, Giv g) ∧ gs.length ≤ 2 ∧ cutP [a, b] none (some n) = gs := ⟨[], 0, rfl, by simp, by simp, rfl⟩
    simp only [List.mem_cons, List.not_mem_nil, or_false] at hx
    rcases hx with rfl | rfl | rfl | rfl | rfl | rfl | rfl | rfl | rfl | rfl | rfl | rfl <;> first | exact c1 | exact c2 | exact c0
  obtain ⟨gs, n, rfl, hg, hl, hc⟩ := hk
  obtain ⟨z, hz⟩ := repr_list hg hl
  refine ⟨[z0, some (.m 0), some (.m 1), z3, some (.lst (rowX a b)), z5, some (.lst gs), some (.int n), z8, z9], [z0, some (.m 0), some (.m 1), z3, some (.lst (rowX a b)), z5, some (.lst gs), some (.int n), z8, z9], rfl, ?_, ⟨z3, z5, some (.lst gs), some (.int n), z8, z9, rfl⟩⟩
  have hsl : eSl false (getV 2) pN (pS (getV 7)) [z0, some (.m 0), some (.m 1), z3, some (.lst (rowX a b)), z5, some (.lst gs), some (.int n), z8, z9] (st2 p [a, b]) = .ok (.lst gs) (st2 p [a, b]) := by
    show newL false (cutP [a, b] none (some n)) (st2 p [a, b]) = _
    rw [hc]
    exact newL_f (by omega)
  exact r_seq (r_sif (c := false) (r_cmp (r_eA (r_aC (r_var (v := .lst gs) rfl rfl) r_aN) (hz _)) (r_eA (r_aC hsl r_aN) (hz _)) v_nes) r_skip) r_skip
theorem law_pure (ns : List Int) (hn : ns.length ≤ 63) (_ : ∀ k ∈ ns, Builtin.Int.intBits k ≤ 1048576) : ∃ st, m_law [.ro (ns.map PV.int)] [] = .ok (.bl true) st := by
  obtain ⟨p0, hp0, _, e0⟩ := pen_ok (ns := ns) (st := []) (by omega) (fun x hx => by simp at hx)
  obtain ⟨f1, p1, a, ha, hp1, e1'⟩ := give_ok (p := p0) (gs := []) (c := 0) (z0 := some (.ro (ns.map PV.int))) (z3 := some (.int 0)) (z4 := none) (z5 := none) (z6 := none) (z7 := none) (z8 := none) (z9 := none) (by simp) (by simp) hp0 (by decide)
  obtain ⟨f2, p2, b, hb, hp2, e2'⟩ := give_ok (p := p1) (gs := [a]) (c := 9) (z0 := some (.ro (ns.map PV.int))) (z3 := some (.int 1)) (z4 := none) (z5 := none) (z6 := none) (z7 := none) (z8 := some (.int f1)) (z9 := none) (by simpa using ha.1) (by simp) hp1 (by decide)
  have hpl : ∀ g ∈ [a, b], plain g := by
    intro g hg
    simp only [List.mem_cons, List.not_mem_nil, or_false] at hg
    rcases hg with rfl | rfl
    · exact ha.1
    · exact hb.1
  have hs : Sb (st2 p2 [a, b]).length (st2 p2 [a, b]) := sb2 hpl
  have hsub : ∀ {ρ : Rho} (i : Int) (x : PV), ρ[2]? = some (some (.m 1)) → atP [a, b] i = some x → plain x → e2 subV (getV 2) (eC (.int i)) ρ (st2 p2 [a, b]) = .ok x (st2 p2 [a, b]) := fun i x hρ hx hp => by
    refine r_e2 (r_m1 hρ) r_c ?_
    show (match atP [a, b] i with | some x => Res.ok (normV (st2 p2 [a, b]) x) (st2 p2 [a, b]) | none => .bad) = _
    rw [hx]
    dsimp only
    rw [hp.norm]
  obtain ⟨ρ3, e3, h3⟩ := ask_ok (z0 := some (.ro (ns.map PV.int))) (a := a) (b := b) hs [some (.ro (ns.map PV.int)), some (.m 0), some (.m 1), some (.int 1), some (.lst (rowX a b)), none, none, none, some (.int f2), none] ⟨_, _, _, _, _, _, rfl⟩
  obtain ⟨ρ4, e4, h4⟩ := show_ok (p := p2) ha hb ρ3 h3
  obtain ⟨z3, z5, z6, z7, z8, z9, rfl⟩ := h3
  have body : b_law [some (.ro (ns.map PV.int)), none, none, none, none, none, none, none, none, none] [] = .rt (.bl true) (st2 p2 [a, b]) := by
    refine r_seq (r_asg (r_eA (r_aC (r_var (v := .ro (ns.map PV.int)) rfl rfl) r_aN) e0)) (r_seq (r_asg (v := .m 1) (st1 := st2 p0 []) (r_eA r_aN rfl)) ?_)
    refine r_seq (for_run (xs := [.int 0, .int 1]) (r_iA (r_aC r_c r_aN) rfl) (for_cons asg_nm e1' (for_cons asg_nm e2' for_nil))) ?_
    refine r_seq (r_asg (r_eA (r_aC (hsub 0 a rfl rfl ha.1) (r_aC (hsub 1 b rfl rfl hb.1) r_aN)) (objects_ok ha.1 hb.1 hs))) ?_
    refine r_seq (for_run (xs := enumP (rowX a b)) (r_iA (r_aC (r_var (v := .lst (rowX a b)) rfl rfl) r_aN) rfl) e3) ?_
    refine r_seq (for_run (xs := zipP (fieldsX a b) manyL) (r_iA (r_aC (r_eA (r_aC (r_var (v := .lst (rowX a b)) rfl rfl) r_aN) (fields_ok ha.1 hb.1 hs)) (r_aC (r_eA (r_aC r_c (r_aC r_c (r_aC r_c (r_aC r_c (r_aC r_c (r_aC r_c (r_aC r_c (r_aC r_c (r_aC r_c (r_aC r_c (r_aC r_c (r_aC r_c r_aN)))))))))))) (newL_f (xs := manyL) (by decide))) r_aN)) rfl) e4) ?_
    exact r_seqR (r_ret r_c)
  have := run_rt (np := 1) (ns := 10) (b := b_law) (args := [.ro (ns.map PV.int)]) (st := []) rfl body rfl (fun x hx => by simp at hx)
  exact ⟨_, this⟩
end L3
open PySem PySem.W PySem.Calls PyProof.Rows
theorem PySem.Challenge.cw_bestlooks_k00_errors_holds : PySem.Challenge.rw_bestlooks_k00_errors.Holds := by
  w_on; o_law
  refine HandSHeadRun.head_any (r := OpenLaw.row PySem.Challenge.rw_bestlooks_k00_errors) (q := view (OpenLaw.row PySem.Challenge.rw_bestlooks_k00_errors).prog [22]) (H := L3.hk) (ob := L3.ob) (M := 12000) (loose := L3.names) (d := HandSHeadRun.topDef (OpenLaw.row PySem.Challenge.rw_bestlooks_k00_errors).prog 22) (kwd := []) L3.ob_eq
    (by kernel_rfl) (fun s => by kernel_rfl) L3.run (by kernel_rfl) (by kernel_rfl) (by kernel_rfl) (by rfl) (by first | assumption | decide +kernel) (by decide +kernel) ⟨rfl, rfl, rfl, rfl, rfl, by decide +kernel⟩ ?hw ?hc
  case hw => w_witness2
  case hc =>
    refine L3.walk_ofG (l := PySem.Challenge.rw_bestlooks_k00_errors) (n := 63) (k := 4) (x := "_law_script") (m := L3.m_law) rfl (by decide) (by kernel_rfl) ⟨rfl, by decide, by decide⟩ L3.law_pure ?F
    intro w mg fa h Y G hmg0
    obtain ⟨K, KX, own, c⟩ := Y
    have hmg : mg ("law" : PySem.Str) = some (.ref fa) := by
      have e : (HandSHeadRun.topDef (OpenLaw.row PySem.Challenge.rw_bestlooks_k00_errors).prog 22).name = ("law" : PySem.Str) := by kernel_rfl
      rw [← e]
      exact hmg0
    have F0 : L3.Fct L3.fa L3.fn L3.T K mg h := ⟨c, own, KX, G⟩
    have ef := hmg.symm.trans (F0.glo 30 (x := "law"))
    cases ef
    obtain ⟨fd, D, _⟩ := L3.g_law (P := (PySem.Challenge.rw_bestlooks_k00_errors).prog) (w := w) F0
    have b := L2.FunD.bindsA (ps := ["_law_script"]) D fun _ _ _ _ _ _ us hl => match us, hl with | [_], _ => rfl
    refine ⟨K, fd, KX, fun s v => b s [v] rfl, fun base KB GB => ?_⟩
    obtain ⟨fd2, D2, g2⟩ := L3.g_law (P := (PySem.Challenge.rw_bestlooks_k00_errors).prog) (w := w) (⟨c, own, KB, GB⟩ : L3.Fct L3.fa L3.fn L3.T K mg base)
    obtain ⟨oc, od, dV, kV, doc, pm, an, cdv, ct, osl, h1, h2, _⟩ := D.ex
    obtain ⟨oc', od', dV', kV', doc', pm', an', cdv', ct', osl', h1', h2', _⟩ := D2.ex
    have e2 := h2.symm.trans h2'
    have e3 : fd = fd2 := by
      injection e2 with e2
      injection e2 with _ _ e2 _
      injection e2
    subst e3
    exact g2
