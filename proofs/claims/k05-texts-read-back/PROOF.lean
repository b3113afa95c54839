import PyProof.Rows.All
import Wide.All
import OpenK.AllK
import Wide.FinOn
import HandS.ForMost
import HandS.More
import KE.SortData
import PyProof.ReprRoads
import HandS.TupAny
import HandS.TupLe
import HandS.Wide
import HandS.WideBits
import HandS.Deep
import HandS.Walk
import HandS.Zip
import HandS.Rev
import HandS.Conv
import HandS.NoneIn
import HandS.Style
import HandS.FStr
import HandS.RaiseMore
import HandS.IsInst
import HandS.OwnEq
import KE.GoesEnum
import PyProof.EnumMake
import HandS.Defaults
import HandS.MakeKwOnly
import HandS.Ends
import PyProof.InstNe
import HandS.Dict
import HandS.SetFor
import HandS.DictComp
import HandS.TupMul
import HandS.Text
import KE.KFmtOwn
import PySem.Challenge.RW_wakebells_k05_texts_of_webs_read_back
set_option Elab.async false
set_option linter.all false
set_option maxRecDepth 100000
set_option maxHeartbeats 4000000

/-! ==== DL1 -/
/-! DL1: data, what bears them in a heap, environments, readings by data -/
namespace DL
open PySem L2

inductive D where
  | non
  | bl (b : Bool)
  | int (i : Int)
  | str (s : Str)
  | tup (l : List D)
  | lst (l : List D)
  | ro (l : List D)
  | dK (ks : List Key) (l : List D)
  | dT (ks : List (List Key)) (l : List D)
  | obj (c : Str) (ns : List Str) (l : List D)

mutual
def Rp (K : PySem.W.Frag) (cm : Str → Option Addr) (F : Hp) : D → V → Prop
  | .non, v => v = .non
  | .bl b, v => v = .bl b
  | .int i, v => v = .int i
  | .str s, v => v = .str s
  | .tup l, v => ∃ a xs, v = .ref a ∧ SqT K F a xs ∧ RpL K cm F l xs
  | .lst l, v => ∃ a xs, v = .ref a ∧ F a = some (.lst xs) ∧ RpL K cm F l xs
  | .ro l, v => ∃ a xs, v = .ref a ∧ SqL K F a xs ∧ RpL K cm F l xs
  | .dK ks l, v => ∃ a xs, v = .ref a ∧ F a = some (.dK (ks.zip xs)) ∧ ks.length = l.length ∧ RpL K cm F l xs
  | .dT ks l, v => ∃ a xs, v = .ref a ∧ F a = some (.dT (ks.zip xs)) ∧ ks.length = l.length ∧ RpL K cm F l xs
  | .obj c ns l, v => ∃ a dx C fs, v = .ref a ∧ cm c = some C ∧ F a = some (.ins C dx fs) ∧ F dx = some (.own a) ∧ fs.map (·.1) = ns ∧ RpL K cm F l (fs.map (·.2))
def RpL (K : PySem.W.Frag) (cm : Str → Option Addr) (F : Hp) : List D → List V → Prop
  | [], vs => vs = []
  | d :: ds, vs => ∃ v r, vs = v :: r ∧ Rp K cm F d v ∧ RpL K cm F ds r
end

theorem same_T {K : PySem.W.Frag} {F F' : Hp} (s : Same F F') {a : Addr} {xs : List V} (h : SqT K F a xs) : SqT K F' a xs := by
  rcases h with h | h
  · rcases h with h | ⟨o, h⟩
    · exact .inl (.inl (s _ _ h))
    · exact .inl (.inr ⟨o, s _ _ h⟩)
  · exact .inr h

section
variable {K : PySem.W.Frag} {cm : Str → Option Addr} {F F' : Hp}
mutual
theorem Rp.mono (s : Same F F') : ∀ (d : D) (v : V), Rp K cm F d v → Rp K cm F' d v
  | .non, _, h => by simpa only [Rp] using h
  | .bl _, _, h => by simpa only [Rp] using h
  | .int _, _, h => by simpa only [Rp] using h
  | .str _, _, h => by simpa only [Rp] using h
  | .tup l, v, h => by
    simp only [Rp] at h ⊢
    obtain ⟨a, xs, e, q, r⟩ := h
    exact ⟨a, xs, e, same_T s q, RpL.mono s l xs r⟩
  | .lst l, v, h => by
    simp only [Rp] at h ⊢
    obtain ⟨a, xs, e, q, r⟩ := h
    exact ⟨a, xs, e, s _ _ q, RpL.mono s l xs r⟩
  | .ro l, v, h => by
    simp only [Rp] at h ⊢
    obtain ⟨a, xs, e, q, r⟩ := h
    exact ⟨a, xs, e, s.seq q, RpL.mono s l xs r⟩
  | .dK ks l, v, h => by
    simp only [Rp] at h ⊢
    obtain ⟨a, xs, e, q, z, r⟩ := h
    exact ⟨a, xs, e, s _ _ q, z, RpL.mono s l xs r⟩
  | .dT ks l, v, h => by
    simp only [Rp] at h ⊢
    obtain ⟨a, xs, e, q, z, r⟩ := h
    exact ⟨a, xs, e, s _ _ q, z, RpL.mono s l xs r⟩
  | .obj c ns l, v, h => by
    simp only [Rp] at h ⊢
    obtain ⟨a, dx, C, fs, e, hc, h1, h2, h3, r⟩ := h
    exact ⟨a, dx, C, fs, e, hc, s _ _ h1, s _ _ h2, h3, RpL.mono s l _ r⟩
theorem RpL.mono (s : Same F F') : ∀ (ds : List D) (vs : List V), RpL K cm F ds vs → RpL K cm F' ds vs
  | [], _, h => by simpa only [RpL] using h
  | d :: ds, vs, h => by
    simp only [RpL] at h ⊢
    obtain ⟨v, r, e, q, t⟩ := h
    exact ⟨v, r, e, Rp.mono s d v q, RpL.mono s ds r t⟩
end
theorem RpL.len : ∀ {ds : List D} {vs : List V}, RpL K cm F ds vs → vs.length = ds.length
  | [], _, h => by simp only [RpL] at h; subst h; rfl
  | d :: ds, _, h => by
    simp only [RpL] at h
    obtain ⟨v, r, rfl, _, t⟩ := h
    simp [RpL.len t]
theorem RpL.nil : RpL K cm F [] [] := by simp only [RpL]
theorem RpL.cons {d : D} {v : V} {ds : List D} {vs : List V} (h : Rp K cm F d v) (t : RpL K cm F ds vs) : RpL K cm F (d :: ds) (v :: vs) := by
  simp only [RpL]; exact ⟨v, vs, rfl, h, t⟩
theorem RpL.append : ∀ {ds es : List D} {vs us : List V}, RpL K cm F ds vs → RpL K cm F es us → RpL K cm F (ds ++ es) (vs ++ us)
  | [], _, _, _, h, t => by simp only [RpL] at h; subst h; exact t
  | d :: ds, es, _, us, h, t => by
    simp only [RpL] at h
    obtain ⟨v, r, rfl, q, h⟩ := h
    exact .cons q (RpL.append h t)
theorem RpL.get : ∀ {ds : List D} {vs : List V} {i : Nat} {d : D}, RpL K cm F ds vs → ds[i]? = some d → ∃ v, vs[i]? = some v ∧ Rp K cm F d v
  | [], _, i, _, _, e => by simp at e
  | d :: ds, _, 0, x, h, e => by
    simp only [RpL] at h
    obtain ⟨v, r, rfl, q, h⟩ := h
    simp at e; subst e
    exact ⟨v, rfl, q⟩
  | d :: ds, _, i + 1, x, h, e => by
    simp only [RpL] at h
    obtain ⟨v, r, rfl, q, h⟩ := h
    simp at e
    obtain ⟨w, h1, h2⟩ := RpL.get h e
    exact ⟨w, by simpa using h1, h2⟩
theorem RpL.get' : ∀ {ds : List D} {vs : List V} {i : Nat} {v : V}, RpL K cm F ds vs → vs[i]? = some v → ∃ d, ds[i]? = some d ∧ Rp K cm F d v := fun {ds vs i v} h e => by
  have hl := h.len
  have : i < ds.length := by
    have := (List.getElem?_eq_some_iff.mp e).1; omega
  obtain ⟨w, h1, h2⟩ := h.get (i := i) (d := ds[i]) (by simp [this])
  rw [e] at h1; cases h1
  exact ⟨_, by simp [this], h2⟩
theorem RpL.set : ∀ {ds : List D} {vs : List V} {i : Nat} {d : D} {v : V}, RpL K cm F ds vs → Rp K cm F d v → RpL K cm F (ds.set i d) (vs.set i v)
  | [], _, i, _, _, h, _ => by simp only [RpL] at h; subst h; exact .nil
  | d :: ds, _, 0, x, w, h, q => by
    simp only [RpL] at h
    obtain ⟨v, r, rfl, _, h⟩ := h
    exact .cons q h
  | d :: ds, _, i + 1, x, w, h, q => by
    simp only [RpL] at h
    obtain ⟨v, r, rfl, q', h⟩ := h
    exact .cons q' (RpL.set h q)
theorem RpL.take : ∀ {ds : List D} {vs : List V} (n : Nat), RpL K cm F ds vs → RpL K cm F (ds.take n) (vs.take n)
  | _, _, 0, _ => by simp only [List.take_zero]; exact .nil
  | [], _, n + 1, h => by simp only [RpL] at h; subst h; exact .nil
  | d :: ds, _, n + 1, h => by
    simp only [RpL] at h
    obtain ⟨v, r, rfl, q, h⟩ := h
    exact .cons q (RpL.take n h)
theorem RpL.drop : ∀ {ds : List D} {vs : List V} (n : Nat), RpL K cm F ds vs → RpL K cm F (ds.drop n) (vs.drop n)
  | _, _, 0, h => by simpa using h
  | [], _, n + 1, h => by simp only [RpL] at h; subst h; exact .nil
  | d :: ds, _, n + 1, h => by
    simp only [RpL] at h
    obtain ⟨v, r, rfl, _, h⟩ := h
    exact RpL.drop n h
end

/-! ### environments -/
/-- what an own object holds: a list, a dict with keys that are ints and texts, a dict whose keys are tuples of such -/
inductive OV where
  | L (l : List D)
  | K (ks : List Key) (l : List D)
  | T (ks : List (List Key)) (l : List D)
/-- a slot: unset, data that never change, an own object, one that the caller owns -/
inductive SV where
  | un
  | dat (d : D)
  | own (o : OV)
  | bor (o : OV)
abbrev Env := List SV

def SV.isO : SV → Bool
  | .own _ => true
  | .bor _ => true
  | _ => false
def SV.isB : SV → Bool
  | .bor _ => true
  | _ => false

section
variable (K : PySem.W.Frag) (cm : Str → Option Addr)
def RO (F H : Hp) (a : Addr) : OV → Prop
  | .L l => ∃ xs, H a = some (.lst xs) ∧ RpL K cm F l xs
  | .K ks l => ∃ xs, H a = some (.dK (ks.zip xs)) ∧ ks.length = l.length ∧ RpL K cm F l xs
  | .T ks l => ∃ xs, H a = some (.dT (ks.zip xs)) ∧ ks.length = l.length ∧ RpL K cm F l xs
def SlotOk (F H : Hp) (v : Option (Option V)) : SV → Prop
  | .un => True
  | .dat d => ∃ u, v = some (some u) ∧ Rp K cm F d u
  | .own o => ∃ a, v = some (some (.ref a)) ∧ F a = none ∧ RO K cm F H a o
  | .bor o => ∃ a, v = some (some (.ref a)) ∧ F a = none ∧ RO K cm F H a o
/-- the environment env is borne by the slots σ and the heap H; F: what never changes; H0: the heap at the entry -/
structure Good (H0 F : Hp) (env : Env) (σ : L2.St) (H : Hp) : Prop where
  le : Same F H
  len : σ.length = env.length
  slot : ∀ (i : Nat) sv, env[i]? = some sv → SlotOk K cm F H σ[i]? sv
  sep : ∀ (i j : Nat) sv tv a, i ≠ j → env[i]? = some sv → env[j]? = some tv → sv.isO = true → tv.isO = true → σ[i]? = some (some (.ref a)) → σ[j]? ≠ some (some (.ref a))
  frame : ∀ a o, H0 a = some o → (∀ (i : Nat) sv, env[i]? = some sv → sv.isB = true → σ[i]? ≠ some (some (.ref a))) → H a = some o
  fresh : ∀ (i : Nat) o a, env[i]? = some (.own o) → σ[i]? = some (some (.ref a)) → H0 a = none
end

/-- what an expression may do to the kinds of the slots -/
def SvLe : SV → SV → Prop
  | .un, t => t = .un
  | .dat d, t => t = .dat d
  | .own _, t => (∃ o, t = .own o) ∨ ∃ d, t = .dat d
  | .bor _, t => ∃ o, t = .bor o
theorem SvLe.refl : ∀ s, SvLe s s
  | .un => rfl
  | .dat _ => rfl
  | .own o => .inl ⟨o, rfl⟩
  | .bor o => ⟨o, rfl⟩
theorem SvLe.trans : ∀ {a b c : SV}, SvLe a b → SvLe b c → SvLe a c
  | .un, _, _, h, k => by cases h; exact k
  | .dat _, _, _, h, k => by cases h; exact k
  | .own _, _, _, h, k => by
    rcases h with ⟨o, rfl⟩ | ⟨d, rfl⟩
    · exact k
    · cases k; exact .inr ⟨d, rfl⟩
  | .bor _, _, _, h, k => by
    obtain ⟨o, rfl⟩ := h
    exact k
structure EnvLe (a b : Env) : Prop where
  len : b.length = a.length
  at_ : ∀ (i : Nat) s, a[i]? = some s → ∃ t, b[i]? = some t ∧ SvLe s t
theorem EnvLe.refl (a : Env) : EnvLe a a := ⟨rfl, fun i s h => ⟨s, h, SvLe.refl s⟩⟩
theorem EnvLe.trans {a b c : Env} (h : EnvLe a b) (k : EnvLe b c) : EnvLe a c := ⟨k.len.trans h.len, fun i s e => by
  obtain ⟨t, e1, l1⟩ := h.at_ i s e
  obtain ⟨u, e2, l2⟩ := k.at_ i t e1
  exact ⟨u, e2, l1.trans l2⟩⟩
theorem EnvLe.back {a b : Env} (h : EnvLe a b) {i : Nat} {t : SV} (e : b[i]? = some t) : ∃ s, a[i]? = some s ∧ SvLe s t := by
  have : i < a.length := by rw [← h.len]; exact (List.getElem?_eq_some_iff.mp e).1
  obtain ⟨t', e', l⟩ := h.at_ i a[i] (by simp [this])
  rw [e] at e'; cases e'
  exact ⟨_, by simp [this], l⟩

/-- an exception of the text's own: its class, what its one field holds -/
structure Xc where
  cls : Str
  fld : Option (Str × D)
inductive Out (α : Type) where
  | no
  | ok (a : α) (e : Env)
  | ex (x : Xc) (e : Env)
def Out.bind {α β : Type} (o : Out α) (f : α → Env → Out β) : Out β := match o with
  | .no => .no
  | .ok a e => f a e
  | .ex x e => .ex x e
@[simp] theorem bind_no {α β : Type} (f : α → Env → Out β) : (Out.no : Out α).bind f = .no := rfl
@[simp] theorem bind_ok {α β : Type} (a : α) (e : Env) (f : α → Env → Out β) : (Out.ok a e).bind f = f a e := rfl
@[simp] theorem bind_ex {α β : Type} (x : Xc) (e : Env) (f : α → Env → Out β) : (Out.ex x e : Out α).bind f = .ex x e := rfl

/-- a wish for what is raised -/
abbrev WX := L2.St → XK
def W0 : WX := fun _ _ _ _ => False

/-- the facts of the text that data lean on -/
structure Kc where
  K : PySem.W.Frag
  cm : Str → Option Addr

section
variable (c : Kc)
abbrev Kc.Good (H0 F : Hp) (env : Env) (σ : L2.St) (H : Hp) : Prop := DL.Good c.K c.cm H0 F env σ H
def XRep (F H : Hp) (x : Xc) (cl : Value) (dx : Option Addr) : Prop :=
  ∃ C, c.cm x.cls = some C ∧ cl = .ref C ∧ match x.fld with
    | none => dx = none ∨ ∃ d, dx = some d
    | some (f, v) => ∃ d u, dx = some d ∧ H d = some (.xd [(f, u)]) ∧ Rp c.K c.cm F v u
structure Step (H0 F : Hp) (env : Env) (σ : L2.St) (F' : Hp) (env' : Env) (H' : Hp) : Prop where
  same : Same F F'
  le : EnvLe env env'
  good : c.Good H0 F' env' σ H'
  old : ∀ a o, H0 a ≠ none → F' a = some o → F a = some o
def Res {α : Type} (W : WX) (H0 F : Hp) (env : Env) (σ : L2.St) (o : Out α) (k : α → Env → Hp → Hp → Prop) : Prop := match o with
  | .no => False
  | .ok a env' => ∀ F' H', Step c H0 F env σ F' env' H' → k a env' F' H'
  | .ex x env' => ∀ F' H' cl dx, Step c H0 F env σ F' env' H' → XRep c F' H' x cl dx → W σ cl dx H'
/-- THE canonical reading of what an expression comes to -/
def tD (W : WX) (r : Env → Out D) : TE := fun σ H Q => ∃ H0 F env, c.Good H0 F env σ H ∧ Res c W H0 F env σ (r env) fun d _ F' H' => ∀ v, Rp c.K c.cm F' d v → Q v H'
end

section
variable {c : Kc} {W : WX} {H0 F F' H H' : Hp} {env env' : Env} {σ : L2.St} {α β : Type}
theorem Step.refl (g : c.Good H0 F env σ H) : Step c H0 F env σ F env H := ⟨Same.refl _, EnvLe.refl _, g, fun _ _ _ e => e⟩
theorem Step.trans {F2 H2 : Hp} {env2 : Env} (s : Step c H0 F env σ F' env' H') (t : Step c H0 F' env' σ F2 env2 H2) : Step c H0 F env σ F2 env2 H2 :=
  ⟨s.same.trans t.same, s.le.trans t.le, t.good, fun a o n e => s.old a o n (t.old a o n e)⟩
theorem Res.base {o : Out α} {k : α → Env → Hp → Hp → Prop} (s : Step c H0 F env σ F' env' H') (h : Res c W H0 F env σ o k) : Res c W H0 F' env' σ o k := by
  cases o with
  | no => exact h
  | ok a e => exact fun F2 H2 st => h F2 H2 (s.trans st)
  | ex x e => exact fun F2 H2 cl dx st => h F2 H2 cl dx (s.trans st)
theorem Res.mono {o : Out α} {k k' : α → Env → Hp → Hp → Prop} (h : Res c W H0 F env σ o k) (f : ∀ a e F' H', Step c H0 F env σ F' e H' → k a e F' H' → k' a e F' H') : Res c W H0 F env σ o k' := by
  cases o with
  | no => exact h
  | ok a e => exact fun F2 H2 st => f a e F2 H2 st (h F2 H2 st)
  | ex x e => exact h
theorem Res.bind {o : Out α} {f : α → Env → Out β} {k : β → Env → Hp → Hp → Prop} (h : Res c W H0 F env σ (o.bind f) k) :
    Res c W H0 F env σ o fun a e F' _ => Res c W H0 F' e σ (f a e) k := by
  cases o with
  | no => exact h
  | ok a e => exact fun F2 H2 st => Res.base st h
  | ex x e => exact h
/-- both at once -/
theorem Res.seq {o : Out α} {f : α → Env → Out β} {k : β → Env → Hp → Hp → Prop} {k' : α → Env → Hp → Hp → Prop} (h : Res c W H0 F env σ (o.bind f) k)
    (q : ∀ a e F' H', Step c H0 F env σ F' e H' → Res c W H0 F' e σ (f a e) k → k' a e F' H') : Res c W H0 F env σ o k' := h.bind.mono q
theorem Res.ret {a : α} {k : α → Env → Hp → Hp → Prop} (g : c.Good H0 F env σ H) (h : Res c W H0 F env σ (.ok a env) k) : k a env F H := h F H (Step.refl g)

theorem _root_.L2.PE.imp {X : Cx} {e : Expr} {t t' : TE} (h : PE X e t) (i : ∀ σ H Q, t' σ H Q → t σ H Q) : PE X e t' := ⟨fun pins s σ H Q I q => h.run pins s σ H Q I (i σ H Q q)⟩
theorem _root_.L2.PT.imp {X : Cx} {e : Expr} {t t' : TT} (h : PT X e t) (i : ∀ σ H Q, t' σ H Q → t σ H Q) : PT X e t' := ⟨fun pins s σ H Q I q => h.run pins s σ H Q I (i σ H Q q)⟩
theorem _root_.L2.PA.imp {X : Cx} {e : List Expr} {t t' : TA} (h : PA X e t) (i : ∀ σ H Q, t' σ H Q → t σ H Q) : PA X e t' := ⟨fun pos pins s σ H Q I q => h.run pos pins s σ H Q I (i σ H Q q)⟩
theorem _root_.L2.PS.imp {X : Cx} {e : Stmt} {t t' : TS} (h : PS X e t) (i : ∀ D σ H, t' D σ H → t D σ H) : PS X e t' := ⟨fun pins s σ H D I q => h.run pins s σ H D I (i D σ H q)⟩
theorem _root_.L2.PSs.imp {X : Cx} {e : List Stmt} {t t' : TS} (h : PSs X e t) (i : ∀ D σ H, t' D σ H → t D σ H) : PSs X e t' := ⟨fun pins s σ H D I q => h.run pins s σ H D I (i D σ H q)⟩
end

/-! ### heaps -/
section
variable {c : Kc} {H0 F H : Hp} {env : Env} {σ : L2.St} {p : Addr} {o : HO}
theorem RO.mono {K : PySem.W.Frag} {cm : Str → Option Addr} {F F' H H' : Hp} {a : Addr} (s : Same F F') (e : H' a = H a) : ∀ {o : OV}, RO K cm F H a o → RO K cm F' H' a o
  | .L _, ⟨xs, h, r⟩ => ⟨xs, e.trans h, RpL.mono s _ _ r⟩
  | .K _ _, ⟨xs, h, z, r⟩ => ⟨xs, e.trans h, z, RpL.mono s _ _ r⟩
  | .T _ _, ⟨xs, h, z, r⟩ => ⟨xs, e.trans h, z, RpL.mono s _ _ r⟩
theorem RO.some {K : PySem.W.Frag} {cm : Str → Option Addr} {F H : Hp} {a : Addr} : ∀ {o : OV}, RO K cm F H a o → ∃ u, H a = some u
  | .L _, ⟨xs, h, r⟩ => ⟨_, h⟩
  | .K _ _, ⟨xs, h, r⟩ => ⟨_, h⟩
  | .T _ _, ⟨xs, h, r⟩ => ⟨_, h⟩
theorem Good.at_own (g : c.Good H0 F env σ H) {i : Nat} {sv : SV} (e : env[i]? = Option.some sv) (o : sv.isO = true) : ∃ a ov, (sv = .own ov ∨ sv = .bor ov) ∧ σ[i]? = Option.some (Option.some (.ref a)) ∧ F a = none ∧ RO c.K c.cm F H a ov := by
  have h := g.slot i sv e
  cases sv with
  | un => cases o
  | dat d => cases o
  | own ov => obtain ⟨a, h1, h2, h3⟩ := h; exact ⟨a, ov, .inl rfl, h1, h2, h3⟩
  | bor ov => obtain ⟨a, h1, h2, h3⟩ := h; exact ⟨a, ov, .inr rfl, h1, h2, h3⟩
/-- a new thing that never changes -/
theorem Good.alloc (g : c.Good H0 F env σ H) (hp : H p = none) : Step c H0 F env σ (upd F p o) env (upd H p o) := by
  have fp : F p = none := Same.free g.le hp
  have sm : Same F (upd F p o) := fun a u e => by rw [upd_ne (ne_of_none e fp)]; exact e
  refine ⟨sm, EnvLe.refl _, ⟨fun a u e => ?_, g.len, fun i sv e => ?_, g.sep, fun a u e q => ?_, g.fresh⟩, fun a u n e => ?_⟩
  · by_cases h : a = p
    · subst h; rw [upd_same] at e ⊢; exact e
    · rw [upd_ne h] at e ⊢; exact g.le a u e
  · have h := g.slot i sv e
    have key : ∀ {a : Addr} {ov : OV}, F a = none → RO c.K c.cm F H a ov → upd F p o a = none ∧ RO c.K c.cm (upd F p o) (upd H p o) a ov := fun {a ov} h1 h2 => by
      obtain ⟨u, hu⟩ := h2.some
      have ne := ne_of_none hu hp
      exact ⟨by rw [upd_ne ne]; exact h1, h2.mono sm (upd_ne ne)⟩
    cases sv with
    | un => trivial
    | dat d => obtain ⟨u, h1, h2⟩ := h; exact ⟨u, h1, Rp.mono sm _ _ h2⟩
    | own ov => obtain ⟨a, h1, h2, h3⟩ := h; exact ⟨a, h1, key h2 h3⟩
    | bor ov => obtain ⟨a, h1, h2, h3⟩ := h; exact ⟨a, h1, key h2 h3⟩
  · have := g.frame a u e q
    rw [upd_ne (ne_of_none this hp)]; exact this
  · by_cases h : a = p
    · subst h
      exfalso
      cases e0 : H0 a with
      | none => exact n e0
      | some w =>
        have := g.frame a w e0 fun i sv e' sb z => by
          obtain ⟨b, ov, _, h1, _, h3⟩ := g.at_own e' (by cases sv <;> first | rfl | cases sb)
          obtain ⟨u', hu⟩ := h3.some
          rw [z] at h1; cases h1
          rw [hp] at hu; cases hu
        rw [hp] at this; cases this
    · rw [upd_ne h] at e; exact e
/-- an own object's content changes -/
theorem Good.change (g : c.Good H0 F env σ H) {i : Nat} {sv sv' : SV} {a : Addr} {ov : OV} (e : env[i]? = some sv) (so : sv.isO = true) (ha : σ[i]? = some (some (.ref a)))
    (k : (∃ x, sv = .own x ∧ sv' = .own ov) ∨ ∃ x, sv = .bor x ∧ sv' = .bor ov) (r : RO c.K c.cm F (upd H a o) a ov) : Step c H0 F env σ F (env.set i sv') (upd H a o) := by
  obtain ⟨a', ov', _, h1, h2, h3⟩ := g.at_own e so
  rw [ha] at h1; cases h1
  have hi : i < env.length := (List.getElem?_eq_some_iff.mp e).1
  have so' : sv'.isO = true := by rcases k with ⟨x, rfl, rfl⟩ | ⟨x, rfl, rfl⟩ <;> rfl
  have sb : sv'.isB = sv.isB := by rcases k with ⟨x, rfl, rfl⟩ | ⟨x, rfl, rfl⟩ <;> rfl
  have look : ∀ {j : Nat} {tv : SV}, (env.set i sv')[j]? = some tv → (j = i ∧ tv = sv') ∨ (j ≠ i ∧ env[j]? = some tv) := fun {j tv} q => by
    by_cases hj : j = i
    · subst hj; rw [List.getElem?_set_self hi] at q; cases q; exact .inl ⟨rfl, rfl⟩
    · rw [List.getElem?_set_ne (Ne.symm hj)] at q; exact .inr ⟨hj, q⟩
  have orig : ∀ {j : Nat} {tv : SV}, (env.set i sv')[j]? = some tv → ∃ t0, env[j]? = some t0 ∧ t0.isO = tv.isO ∧ t0.isB = tv.isB := fun {j tv} q => by
    rcases look q with ⟨rfl, rfl⟩ | ⟨_, q⟩
    · exact ⟨sv, e, so.trans so'.symm, sb.symm⟩
    · exact ⟨tv, q, rfl, rfl⟩
  have hF : ∀ b, F b ≠ none → b ≠ a := fun b hb z => hb (z ▸ h2)
  refine ⟨Same.refl _, ⟨by simp, fun j s q => ?_⟩, ⟨fun b u q => ?_, by simpa using g.len, fun j tv q => ?_, fun j l tv uv b n q1 q2 o1 o2 r1 => ?_, fun b u q z => ?_, fun j ox b q z => ?_⟩, fun _ _ _ e => e⟩
  · by_cases hj : j = i
    · subst hj
      rw [e] at q; cases q
      refine ⟨sv', List.getElem?_set_self hi, ?_⟩
      rcases k with ⟨x, rfl, rfl⟩ | ⟨x, rfl, rfl⟩
      · exact .inl ⟨_, rfl⟩
      · exact ⟨_, rfl⟩
    · exact ⟨s, by rw [List.getElem?_set_ne (Ne.symm hj)]; exact q, SvLe.refl s⟩
  · rw [upd_ne (hF b (by rw [q]; simp))]; exact g.le b u q
  · rcases look q with ⟨rfl, rfl⟩ | ⟨hj, q⟩
    · rcases k with ⟨x, rfl, rfl⟩ | ⟨x, rfl, rfl⟩ <;> exact ⟨a, ha, h2, r⟩
    · have h := g.slot j tv q
      have ne : ∀ {b : Addr}, tv.isO = true → σ[j]? = some (some (.ref b)) → b ≠ a := fun {b} ot hb z => g.sep i j sv tv a (Ne.symm hj) e q so ot ha (z ▸ hb)
      cases tv with
      | un => trivial
      | dat d => exact h
      | own ox => obtain ⟨b, b1, b2, b3⟩ := h; exact ⟨b, b1, b2, b3.mono (Same.refl _) (upd_ne (ne rfl b1))⟩
      | bor ox => obtain ⟨b, b1, b2, b3⟩ := h; exact ⟨b, b1, b2, b3.mono (Same.refl _) (upd_ne (ne rfl b1))⟩
  · obtain ⟨t1, e1, x1, _⟩ := orig q1
    obtain ⟨t2, e2, x2, _⟩ := orig q2
    exact g.sep j l t1 t2 b n e1 e2 (x1.trans o1) (x2.trans o2) r1
  · have z' : ∀ (j : Nat) tv, env[j]? = some tv → tv.isB = true → σ[j]? ≠ some (some (.ref b)) := fun j tv q1 b1 => by
      by_cases hj : j = i
      · subst hj
        rw [e] at q1; cases q1
        exact z j sv' (List.getElem?_set_self hi) (sb.trans b1)
      · exact z j tv (by rw [List.getElem?_set_ne (Ne.symm hj)]; exact q1) b1
    have := g.frame b u q z'
    by_cases hb : b = a
    · subst hb
      exfalso
      rcases k with ⟨x, rfl, rfl⟩ | ⟨x, rfl, rfl⟩
      · have := g.fresh i x b e ha; rw [q] at this; cases this
      · exact z' i _ e rfl ha
    · rw [upd_ne hb]; exact this
  · rcases look q with ⟨rfl, rfl⟩ | ⟨hj, q⟩
    · rcases k with ⟨x, rfl, z2⟩ | ⟨x, _, z2⟩
      · exact g.fresh j x b e z
      · cases z2
    · exact g.fresh j ox b q z
end

/-! ### further steps of the heap -/
section
variable {c : Kc} {H0 F H : Hp} {env : Env} {σ : L2.St} {p : Addr} {o : HO}
/-- a thing that nobody's slot owns, that stands in H and not yet in F -/
structure Apart (env : Env) (σ : L2.St) (H0 F H : Hp) (p : Addr) (o : HO) : Prop where
  f : F p = none
  h : H p = some o
  h0 : H0 p = none
  no : ∀ (i : Nat) sv, env[i]? = some sv → sv.isO = true → σ[i]? ≠ some (some (.ref p))
theorem Good.lay (g : c.Good H0 F env σ H) (hp : H p = none) : c.Good H0 F env σ (upd H p o) ∧ Apart env σ H0 F (upd H p o) p o := by
  have fp : F p = none := Same.free g.le hp
  have no : ∀ (i : Nat) sv, env[i]? = some sv → sv.isO = true → σ[i]? ≠ some (some (.ref p)) := fun i sv e so z => by
    obtain ⟨a, ov, _, h1, _, h3⟩ := g.at_own e so
    obtain ⟨u, hu⟩ := h3.some
    rw [z] at h1; cases h1
    rw [hp] at hu; cases hu
  refine ⟨⟨fun a u e => by rw [upd_ne (ne_of_none e fp)]; exact g.le a u e, g.len, fun i sv e => ?_, g.sep, fun a u e q => ?_, g.fresh⟩, fp, upd_same, ?_, no⟩
  · have h := g.slot i sv e
    have key : ∀ {a : Addr} {ov : OV}, RO c.K c.cm F H a ov → RO c.K c.cm F (upd H p o) a ov := fun {a ov} h2 => by
      obtain ⟨u, hu⟩ := h2.some
      exact h2.mono (Same.refl _) (upd_ne (ne_of_none hu hp))
    cases sv with
    | un => trivial
    | dat d => exact h
    | own ov => obtain ⟨a, h1, h2, h3⟩ := h; exact ⟨a, h1, h2, key h3⟩
    | bor ov => obtain ⟨a, h1, h2, h3⟩ := h; exact ⟨a, h1, h2, key h3⟩
  · have := g.frame a u e q
    rw [upd_ne (ne_of_none this hp)]; exact this
  · cases e : H0 p with
    | none => rfl
    | some u =>
      have := g.frame p u e fun i sv e' so => no i sv e' (by cases sv <;> first | rfl | cases so)
      rw [hp] at this; cases this
/-- it is held for good -/
theorem Good.hold (g : c.Good H0 F env σ H) (a : Apart env σ H0 F H p o) : Step c H0 F env σ (upd F p o) env H := by
  have sm : Same F (upd F p o) := fun b u e => by rw [upd_ne (ne_of_none e a.f)]; exact e
  refine ⟨sm, EnvLe.refl _, ⟨fun b u e => ?_, g.len, fun i sv e => ?_, g.sep, g.frame, g.fresh⟩, fun b u n e => by
    by_cases h : b = p
    · subst h; exact absurd a.h0 n
    · rw [upd_ne h] at e; exact e⟩
  · by_cases h : b = p
    · subst h; rw [upd_same] at e; cases e; exact a.h
    · rw [upd_ne h] at e; exact g.le b u e
  · have h := g.slot i sv e
    have ne : ∀ {b : Addr}, sv.isO = true → σ[i]? = some (some (.ref b)) → b ≠ p := fun {b} so hb z => a.no i sv e so (z ▸ hb)
    cases sv with
    | un => trivial
    | dat d => obtain ⟨u, h1, h2⟩ := h; exact ⟨u, h1, Rp.mono sm _ _ h2⟩
    | own ov => obtain ⟨b, h1, h2, h3⟩ := h; exact ⟨b, h1, by rw [upd_ne (ne rfl h1)]; exact h2, h3.mono sm rfl⟩
    | bor ov => obtain ⟨b, h1, h2, h3⟩ := h; exact ⟨b, h1, by rw [upd_ne (ne rfl h1)]; exact h2, h3.mono sm rfl⟩
/-- a slot is given data -/
theorem Good.set (g : c.Good H0 F env σ H) {i : Nat} {d : D} {v : V} (hb : ∀ sv, env[i]? = some sv → sv.isB = false) (r : Rp c.K c.cm F d v) : c.Good H0 F (env.set i (.dat d)) (σ.set i (some v)) H := by
  have look : ∀ {j : Nat} {tv : SV}, (env.set i (.dat d))[j]? = some tv → (j = i ∧ i < env.length ∧ tv = .dat d) ∨ (j ≠ i ∧ env[j]? = some tv ∧ (σ.set i (some v))[j]? = σ[j]?) := fun {j tv} q => by
    by_cases hj : j = i
    · subst hj
      have hi : j < env.length := by have := (List.getElem?_eq_some_iff.mp q).1; simpa using this
      rw [List.getElem?_set_self hi] at q; cases q; exact .inl ⟨rfl, hi, rfl⟩
    · rw [List.getElem?_set_ne (Ne.symm hj)] at q; exact .inr ⟨hj, q, List.getElem?_set_ne (Ne.symm hj)⟩
  refine ⟨g.le, by simpa using g.len, fun j tv q => ?_, fun j l tv uv a n q1 q2 o1 o2 r1 => ?_, fun a u e z => g.frame a u e fun j tv q b => ?_, fun j ox a q z => ?_⟩
  · rcases look q with ⟨rfl, hi, rfl⟩ | ⟨_, q, e⟩
    · exact ⟨v, List.getElem?_set_self (by rw [g.len]; exact hi), r⟩
    · rw [e]; exact g.slot j tv q
  · rcases look q1 with ⟨rfl, _, rfl⟩ | ⟨_, q1, e1⟩
    · cases o1
    rcases look q2 with ⟨rfl, _, rfl⟩ | ⟨_, q2, e2⟩
    · cases o2
    rw [e1] at r1; rw [e2]
    exact g.sep j l tv uv a n q1 q2 o1 o2 r1
  · by_cases hj : j = i
    · subst hj; rw [hb tv q] at b; cases b
    · have := z j tv (by rw [List.getElem?_set_ne (Ne.symm hj)]; exact q) b
      rwa [List.getElem?_set_ne (Ne.symm hj)] at this
  · rcases look q with ⟨rfl, _, q⟩ | ⟨_, q, e⟩
    · cases q
    · rw [e] at z; exact g.fresh j ox a q z
/-- a slot is given an own object -/
theorem Good.setOwn (g : c.Good H0 F env σ H) {i : Nat} {ov : OV} (hb : ∀ sv, env[i]? = some sv → sv.isB = false) (a : Apart env σ H0 F H p o) (r : RO c.K c.cm F H p ov) : c.Good H0 F (env.set i (.own ov)) (σ.set i (some (.ref p))) H := by
  have look : ∀ {j : Nat} {tv : SV}, (env.set i (.own ov))[j]? = some tv → (j = i ∧ i < env.length ∧ tv = .own ov) ∨ (j ≠ i ∧ env[j]? = some tv ∧ (σ.set i (some (.ref p)))[j]? = σ[j]?) := fun {j tv} q => by
    by_cases hj : j = i
    · subst hj
      have hi : j < env.length := by have := (List.getElem?_eq_some_iff.mp q).1; simpa using this
      rw [List.getElem?_set_self hi] at q; cases q; exact .inl ⟨rfl, hi, rfl⟩
    · rw [List.getElem?_set_ne (Ne.symm hj)] at q; exact .inr ⟨hj, q, List.getElem?_set_ne (Ne.symm hj)⟩
  refine ⟨g.le, by simpa using g.len, fun j tv q => ?_, fun j l tv uv b n q1 q2 o1 o2 r1 => ?_, fun b u e z => g.frame b u e fun j tv q bb => ?_, fun j ox b q z => ?_⟩
  · rcases look q with ⟨rfl, hi, rfl⟩ | ⟨_, q, e⟩
    · exact ⟨p, List.getElem?_set_self (by rw [g.len]; exact hi), a.f, r⟩
    · rw [e]; exact g.slot j tv q
  · rcases look q1 with ⟨rfl, hi, rfl⟩ | ⟨_, q1, e1⟩
    · rw [List.getElem?_set_self (by rw [g.len]; exact hi)] at r1; cases r1
      rcases look q2 with ⟨rfl, _, rfl⟩ | ⟨_, q2, e2⟩
      · exact absurd rfl n
      · rw [e2]; exact a.no l uv q2 o2
    · rw [e1] at r1
      rcases look q2 with ⟨rfl, hi, rfl⟩ | ⟨_, q2, e2⟩
      · rw [List.getElem?_set_self (by rw [g.len]; exact hi)]
        intro z
        have z' := Option.some.inj (Option.some.inj z)
        injection z' with z'
        subst z'
        exact absurd r1 (a.no j tv (by assumption) o1)
      · rw [e2]; exact g.sep j l tv uv b n (by assumption) q2 o1 o2 r1
  · by_cases hj : j = i
    · subst hj; rw [hb tv q] at bb; cases bb
    · have := z j tv (by rw [List.getElem?_set_ne (Ne.symm hj)]; exact q) bb
      rwa [List.getElem?_set_ne (Ne.symm hj)] at this
  · rcases look q with ⟨rfl, hi, q⟩ | ⟨_, q, e⟩
    · rw [List.getElem?_set_self (by rw [g.len]; exact hi)] at z; cases z; exact a.h0
    · rw [e] at z; exact g.fresh j ox b q z
/-- what an own list is as data -/
def OV.toD : OV → D
  | .L l => .lst l
  | .K ks l => .dK ks l
  | .T ks l => .dT ks l
/-- an own object is held for good: from here on it is data -/
theorem Good.freeze (g : c.Good H0 F env σ H) {i : Nat} {ov : OV} (e : env[i]? = some (.own ov)) :
    ∃ a F', σ[i]? = some (some (.ref a)) ∧ Step c H0 F env σ F' (env.set i (.dat ov.toD)) H ∧ Rp c.K c.cm F' ov.toD (.ref a) := by
  obtain ⟨a, ov', k, h1, h2, h3⟩ := g.at_own e rfl
  obtain rfl : ov = ov' := by
    rcases k with k | k
    · injection k
    · cases k
  obtain ⟨o, ho⟩ := h3.some
  have hi : i < env.length := (List.getElem?_eq_some_iff.mp e).1
  have sm : Same F (upd F a o) := fun b u q => by rw [upd_ne (ne_of_none q h2)]; exact q
  have rp : Rp c.K c.cm (upd F a o) ov.toD (.ref a) := by
    cases ov with
    | L l =>
      obtain ⟨xs, q, r⟩ := h3
      rw [ho] at q; cases q
      simp only [OV.toD, Rp]
      exact ⟨a, xs, rfl, upd_same, RpL.mono sm _ _ r⟩
    | K ks l =>
      obtain ⟨xs, q, z, r⟩ := h3
      rw [ho] at q; cases q
      simp only [OV.toD, Rp]
      exact ⟨a, xs, rfl, upd_same, z, RpL.mono sm _ _ r⟩
    | T ks l =>
      obtain ⟨xs, q, z, r⟩ := h3
      rw [ho] at q; cases q
      simp only [OV.toD, Rp]
      exact ⟨a, xs, rfl, upd_same, z, RpL.mono sm _ _ r⟩
  have look : ∀ {j : Nat} {tv : SV}, (env.set i (.dat ov.toD))[j]? = some tv → (j = i ∧ tv = .dat ov.toD) ∨ (j ≠ i ∧ env[j]? = some tv) := fun {j tv} q => by
    by_cases hj : j = i
    · subst hj
      rw [List.getElem?_set_self hi] at q; cases q; exact .inl ⟨rfl, rfl⟩
    · rw [List.getElem?_set_ne (Ne.symm hj)] at q; exact .inr ⟨hj, q⟩
  refine ⟨a, upd F a o, h1, ⟨sm, ⟨by simp, fun j s q => ?_⟩, ⟨fun b u q => ?_, by simpa using g.len, fun j tv q => ?_, fun j l tv uv b n q1 q2 o1 o2 r1 => ?_, fun b u q z => g.frame b u q fun j tv q1 bb => ?_, fun j ox b q z => ?_⟩, fun b u n q => by
    by_cases h : b = a
    · subst h; exact absurd (g.fresh i ov b e h1) n
    · rw [upd_ne h] at q; exact q⟩, rp⟩
  · by_cases hj : j = i
    · subst hj
      rw [e] at q; cases q
      exact ⟨_, List.getElem?_set_self hi, .inr ⟨_, rfl⟩⟩
    · exact ⟨s, by rw [List.getElem?_set_ne (Ne.symm hj)]; exact q, SvLe.refl s⟩
  · by_cases h : b = a
    · subst h; rw [upd_same] at q; cases q; exact ho
    · rw [upd_ne h] at q; exact g.le b u q
  · rcases look q with ⟨rfl, rfl⟩ | ⟨hj, q⟩
    · exact ⟨_, h1, rp⟩
    · have h := g.slot j tv q
      have ne : ∀ {b : Addr}, tv.isO = true → σ[j]? = some (some (.ref b)) → b ≠ a := fun {b} ot hb z => g.sep i j _ tv a (Ne.symm hj) e q rfl ot h1 (z ▸ hb)
      cases tv with
      | un => trivial
      | dat d => obtain ⟨u, h1, h2⟩ := h; exact ⟨u, h1, Rp.mono sm _ _ h2⟩
      | own ox => obtain ⟨b, b1, b2, b3⟩ := h; exact ⟨b, b1, by rw [upd_ne (ne rfl b1)]; exact b2, b3.mono sm rfl⟩
      | bor ox => obtain ⟨b, b1, b2, b3⟩ := h; exact ⟨b, b1, by rw [upd_ne (ne rfl b1)]; exact b2, b3.mono sm rfl⟩
  · rcases look q1 with ⟨rfl, rfl⟩ | ⟨_, q1⟩
    · cases o1
    rcases look q2 with ⟨rfl, rfl⟩ | ⟨_, q2⟩
    · cases o2
    exact g.sep j l tv uv b n q1 q2 o1 o2 r1
  · by_cases hj : j = i
    · subst hj; rw [e] at q1; cases q1; cases bb
    · exact z j tv (by rw [List.getElem?_set_ne (Ne.symm hj)]; exact q1) bb
  · rcases look q with ⟨rfl, q'⟩ | ⟨_, q'⟩
    · cases q'
    · exact g.fresh j ox b q' z
end

/-! ### a narrower look: all that nobody's slot owns stands as it stands -/
section
variable {c : Kc} {W : WX} {H0 F F' H H' : Hp} {env env' : Env} {σ : L2.St} {p : Addr} {o o' : HO} {α : Type}
noncomputable def rebase (env : Env) (σ : L2.St) (H : Hp) : Hp := fun b => open Classical in if ∃ (i : Nat) (o : OV), env[i]? = some (.own o) ∧ σ[i]? = some (some (.ref b)) then none else H b
theorem rebase_some {b : Addr} {u : HO} (h : rebase env σ H b = some u) : H b = some u := by
  unfold rebase at h
  split at h
  · cases h
  · exact h
theorem rebase_ne {b : Addr} (h : ∀ (i : Nat) ov, env[i]? = some (.own ov) → σ[i]? ≠ some (some (.ref b))) : rebase env σ H b = H b := by
  unfold rebase
  rw [if_neg]
  rintro ⟨i, ov, h1, h2⟩
  exact h i ov h1 h2
theorem Good.rebased (g : c.Good H0 F env σ H) : c.Good (rebase env σ H) F env σ H :=
  ⟨g.le, g.len, g.slot, g.sep, fun a u e _ => rebase_some e, fun i ov a e h => by unfold rebase; exact if_pos ⟨i, ov, e, h⟩⟩
theorem EnvLe.bor {a b : Env} (l : EnvLe a b) {i : Nat} {s : SV} (e : b[i]? = some s) (sb : s.isB = true) : ∃ t, a[i]? = some t ∧ t.isB = true := by
  obtain ⟨t, e1, k⟩ := l.back e
  refine ⟨t, e1, ?_⟩
  cases t with
  | un => cases k; cases sb
  | dat d => cases k; cases sb
  | own ov => rcases k with ⟨_, rfl⟩ | ⟨_, rfl⟩ <;> cases sb
  | bor ov => rfl
theorem EnvLe.bor' {a b : Env} (l : EnvLe a b) {i : Nat} {s : SV} (e : a[i]? = some s) (sb : s.isB = true) : ∃ t, b[i]? = some t ∧ t.isB = true := by
  obtain ⟨t, e1, k⟩ := l.at_ i s e
  refine ⟨t, e1, ?_⟩
  cases s with
  | bor ov => obtain ⟨o, rfl⟩ := k; rfl
  | _ => cases sb
theorem EnvLe.own {a b : Env} (l : EnvLe a b) {i : Nat} {ov : OV} (e : b[i]? = some (.own ov)) : ∃ o, a[i]? = some (.own o) := by
  obtain ⟨t, e1, k⟩ := l.back e
  cases t with
  | un => cases k
  | dat d => cases k
  | own ov => exact ⟨ov, e1⟩
  | bor ov => obtain ⟨_, k⟩ := k; cases k
theorem Good.bor_some (g : c.Good H0 F env σ H) {i : Nat} {s : SV} {a : Addr} (e : env[i]? = some s) (so : s.isO = true) (ha : σ[i]? = some (some (.ref a))) : ∃ u, H a = some u := by
  obtain ⟨b, ov, _, h1, _, h3⟩ := g.at_own e so
  rw [ha] at h1; cases h1
  exact h3.some
theorem SV.isO_of_isB {s : SV} (h : s.isB = true) : s.isO = true := by cases s <;> first | rfl | cases h
theorem Good.base_some (g : c.Good H0 F env σ H) {a : Addr} (n : H0 a ≠ none) : rebase env σ H a ≠ none := by
  have no : ∀ (i : Nat) ov, env[i]? = some (.own ov) → σ[i]? ≠ some (some (.ref a)) := fun i ov e z => n (g.fresh i ov a e z)
  rw [rebase_ne no]
  by_cases hb : ∃ (i : Nat) (sv : SV), env[i]? = some sv ∧ sv.isB = true ∧ σ[i]? = some (some (.ref a))
  · obtain ⟨i, sv, e, sb, ha⟩ := hb
    obtain ⟨u, hu⟩ := g.bor_some e (SV.isO_of_isB sb) ha
    rw [hu]; simp
  · cases e0 : H0 a with
    | none => exact absurd e0 n
    | some u => rw [g.frame a u e0 fun i sv e sb z => hb ⟨i, sv, e, sb, z⟩]; simp
theorem Good.unbase (g : c.Good H0 F env σ H) (s : Step c (rebase env σ H) F env σ F' env' H') : Step c H0 F env σ F' env' H' := by
  refine ⟨s.same, s.le, ⟨s.good.le, s.good.len, s.good.slot, s.good.sep, fun a u e q => ?_, fun i ov a e ha => ?_⟩, fun a u n e => s.old a u (g.base_some n) e⟩
  · have h1 : H a = some u := g.frame a u e fun i sv e1 sb => by
      obtain ⟨t, e2, sb2⟩ := s.le.bor' e1 sb
      exact q i t e2 sb2
    refine s.good.frame a u ?_ q
    rw [rebase_ne fun i ov e1 z => by have := g.fresh i ov a e1 z; rw [e] at this; cases this]
    exact h1
  · obtain ⟨o, e1⟩ := s.le.own e
    exact g.fresh i o a e1 ha
/-- what stands apart stands so behind -/
theorem Apart.after (g : c.Good H0 F env σ H) (a : Apart env σ H0 F H p o) (s : Step c (rebase env σ H) F env σ F' env' H') : Apart env' σ H0 F' H' p o := by
  have no : ∀ (i : Nat) sv, env'[i]? = some sv → sv.isO = true → σ[i]? ≠ some (some (.ref p)) := fun i sv e so => by
    obtain ⟨t, e1, k⟩ := s.le.back e
    refine a.no i t e1 ?_
    cases t with
    | un => cases k; cases so
    | dat d => cases k; cases so
    | _ => rfl
  have hb : rebase env σ H p = some o := by rw [rebase_ne fun i ov e => a.no i _ e rfl]; exact a.h
  refine ⟨?_, s.good.frame p o hb fun i sv e sb => no i sv e (SV.isO_of_isB sb), a.h0, no⟩
  cases e : F' p with
  | none => rfl
  | some u =>
    have := s.old p u (by rw [hb]; simp) e
    rw [a.f] at this; cases this
theorem Res.rebased {o : Out α} {k : α → Env → Hp → Hp → Prop} (g : c.Good H0 F env σ H) (h : Res c W H0 F env σ o k) :
    Res c W (rebase env σ H) F env σ o fun a e F' H' => k a e F' H' ∧ Step c H0 F env σ F' e H' ∧ Step c (rebase env σ H) F env σ F' e H' := by
  cases o with
  | no => exact h
  | ok a e => exact fun F2 H2 st => ⟨h F2 H2 (g.unbase st), g.unbase st, st⟩
  | ex x e => exact fun F2 H2 cl dx st => h F2 H2 cl dx (g.unbase st)
/-- what stands apart is changed -/
theorem Good.changeApart (g : c.Good H0 F env σ H) (a : Apart env σ H0 F H p o) : c.Good H0 F env σ (upd H p o') ∧ Apart env σ H0 F (upd H p o') p o' := by
  refine ⟨⟨fun b u e => ?_, g.len, fun i sv e => ?_, g.sep, fun b u e q => ?_, g.fresh⟩, a.f, upd_same, a.h0, a.no⟩
  · rw [upd_ne (ne_of_none e a.f)]; exact g.le b u e
  · have h := g.slot i sv e
    have key : ∀ {b : Addr} {ov : OV}, sv.isO = true → σ[i]? = some (some (.ref b)) → RO c.K c.cm F H b ov → RO c.K c.cm F (upd H p o') b ov := fun {b ov} so hb r =>
      r.mono (Same.refl _) (upd_ne fun z => by subst z; exact a.no i sv e so hb)
    cases sv with
    | un => trivial
    | dat d => exact h
    | own ov => obtain ⟨b, h1, h2, h3⟩ := h; exact ⟨b, h1, h2, key rfl h1 h3⟩
    | bor ov => obtain ⟨b, h1, h2, h3⟩ := h; exact ⟨b, h1, h2, key rfl h1 h3⟩
  · have ne : b ≠ p := fun z => by subst z; rw [a.h0] at e; cases e
    rw [upd_ne ne]; exact g.frame b u e q
end
end DL

/-! ==== DL2 -/
/-! DL2: expressions -/
namespace DL
open PySem L2

/-- what is wanted of a value that bears a datum -/
abbrev kD (c : Kc) (Q : VK) : D → Env → Hp → Hp → Prop := fun d _ F' _H' => ∀ v, Rp c.K c.cm F' d v → Q v _H'
abbrev kA (c : Kc) (Q : List V → Hp → Prop) : List D → Env → Hp → Hp → Prop := fun ds _ F' H' => ∀ vs, RpL c.K c.cm F' ds vs → Q vs H'
abbrev kT (Q : Bool → Hp → Prop) : Bool → Env → Hp → Hp → Prop := fun b _ _ H' => Q b H'
/-- a test's, an argument list's reading -/
def tT (c : Kc) (W : WX) (r : Env → Out Bool) : TT := fun σ H Q => ∃ H0 F env, c.Good H0 F env σ H ∧ Res c W H0 F env σ (r env) (kT Q)
def tA (c : Kc) (W : WX) (r : Env → Out (List D)) : TA := fun σ H Q => ∃ H0 F env, c.Good H0 F env σ H ∧ Res c W H0 F env σ (r env) (kA c Q)
/-- a new list that nobody knows yet -/
def NewL (c : Kc) (H0 F : Hp) (env : Env) (σ : L2.St) (H : Hp) (ds : List D) (v : V) : Prop := ∃ p xs, v = .ref p ∧ Apart env σ H0 F H p (.lst xs) ∧ RpL c.K c.cm F ds xs
abbrev kF (c : Kc) (H0 : Hp) (σ : L2.St) (Q : VK) : List D → Env → Hp → Hp → Prop := fun ds e F' H' => ∀ v, NewL c H0 F' e σ H' ds v → Q v H'
def tF (c : Kc) (W : WX) (r : Env → Out (List D)) : TE := fun σ H Q => ∃ H0 F env, c.Good H0 F env σ H ∧ Res c W H0 F env σ (r env) (kF c H0 σ Q)

section
variable {c : Kc} {W : WX} {X : Cx} {H0 F H : Hp} {env : Env} {σ : L2.St} {Q : VK}

/-! ### names, constants -/
def nameD (i : Nat) (e : Env) : Out D := match e[i]? with
  | some (.dat d) => .ok d e
  | some (.own o) => .ok o.toD (e.set i (.dat o.toD))
  | _ => .no
theorem dl_name {i : Nat} {x : Str} {pos : Pos} (h : PE X (.Name x pos) (tVar i)) : PE X (.Name x pos) (tD c W (nameD i)) := h.imp fun σ H Q ⟨H0, F, env, g, r⟩ => by
  unfold nameD at r
  split at r
  · rename_i d e
    obtain ⟨v, h1, h2⟩ := g.slot i _ e
    exact ⟨v, h1, r.ret g v h2⟩
  · rename_i o e
    obtain ⟨a, F', h1, st, rp⟩ := g.freeze e
    exact ⟨_, h1, r F' H st _ rp⟩
  · exact r.elim
def constD (d : D) (e : Env) : Out D := .ok d e
/-- a constant without parts -/
def flatD : D → Option V
  | .non => some .non
  | .bl b => some (.bl b)
  | .int i => some (.int i)
  | .str s => some (.str s)
  | _ => none
theorem flatD_rp {K : PySem.W.Frag} {cm : Str → Option Addr} {d : D} {v : V} (h : flatD d = some v) : Rp K cm F d v := by
  cases d <;> simp [flatD] at h <;> subst h <;> simp [Rp]
theorem dl_const {e : Expr} {d : D} {v : V} (h : PE X e (tC v)) (hv : flatD d = some v) : PE X e (tD c W (constD d)) := h.imp fun σ H Q ⟨H0, F, env, g, r⟩ => r.ret g v (flatD_rp hv)

/-! ### two and one operands -/
def bin2 (f : D → D → Env → Out D) (ra rb : Env → Out D) (e : Env) : Out D := (ra e).bind fun x e1 => (rb e1).bind fun y e2 => f x y e2
def un1 (f : D → Env → Out D) (ra : Env → Out D) (e : Env) : Out D := (ra e).bind f
def Prim2 (c : Kc) (r : R2) (f : D → D → Env → Out D) : Prop := ∀ W H0 F H env σ x y v u Q, c.Good H0 F env σ H → Rp c.K c.cm F x v → Rp c.K c.cm F y u → Res c W H0 F env σ (f x y env) (kD c Q) → r v u H Q
def Prim1 (c : Kc) (r : V → Hp → VK → Prop) (f : D → Env → Out D) : Prop := ∀ W H0 F H env σ x v Q, c.Good H0 F env σ H → Rp c.K c.cm F x v → Res c W H0 F env σ (f x env) (kD c Q) → r v H Q
theorem dl_bin {e : Expr} {r : R2} {f : D → D → Env → Out D} {ra rb : Env → Out D} (h : PE X e (tOp r (tD c W ra) (tD c W rb))) (p : Prim2 c r f) : PE X e (tD c W (bin2 f ra rb)) := h.imp fun σ H Q ⟨H0, F, env, g, q⟩ =>
  ⟨H0, F, env, g, q.seq fun x e1 F1 H1 s1 q1 v hv => ⟨H0, F1, e1, s1.good, q1.seq fun y e2 F2 H2 s2 q2 u hu => p W H0 F2 H2 e2 σ x y v u Q s2.good (Rp.mono s2.same _ _ hv) hu q2⟩⟩
theorem dl_un {e : Expr} {r : V → Hp → VK → Prop} {f : D → Env → Out D} {ra : Env → Out D} (h : PE X e (tUn r (tD c W ra))) (p : Prim1 c r f) : PE X e (tD c W (un1 f ra)) := h.imp fun σ H Q ⟨H0, F, env, g, q⟩ =>
  ⟨H0, F, env, g, q.seq fun x e1 F1 H1 s1 q1 v hv => p W H0 F1 H1 e1 σ x v Q s1.good hv q1⟩

/-- an operation without a trace -/
def pur2 (f : D → D → Option D) (x y : D) (e : Env) : Out D := match f x y with
  | some d => .ok d e
  | none => .no
def pur1 (f : D → Option D) (x : D) (e : Env) : Out D := match f x with
  | some d => .ok d e
  | none => .no
theorem prim2 {r : R2} {f : D → D → Option D}
    (h : ∀ H0 F H env σ x y v u d Q, c.Good H0 F env σ H → Rp c.K c.cm F x v → Rp c.K c.cm F y u → f x y = some d → (∀ F' H', Step c H0 F env σ F' env H' → ∀ z, Rp c.K c.cm F' d z → Q z H') → r v u H Q) : Prim2 c r (pur2 f) := fun W H0 F H env σ x y v u Q g hx hy q => by
  unfold pur2 at q
  split at q
  · rename_i d e
    exact h H0 F H env σ x y v u d Q g hx hy e fun F' H' st z hz => q F' H' st z hz
  · exact q.elim
theorem prim1 {r : V → Hp → VK → Prop} {f : D → Option D}
    (h : ∀ H0 F H env σ x v d Q, c.Good H0 F env σ H → Rp c.K c.cm F x v → f x = some d → (∀ F' H', Step c H0 F env σ F' env H' → ∀ z, Rp c.K c.cm F' d z → Q z H') → r v H Q) : Prim1 c r (pur1 f) := fun W H0 F H env σ x v Q g hx q => by
  unfold pur1 at q
  split at q
  · rename_i d e
    exact h H0 F H env σ x v d Q g hx e fun F' H' st z hz => q F' H' st z hz
  · exact q.elim

/-! ### operators -/
def addF : D → D → Option D
  | .int i, .int j => some (.int (i + j))
  | .str a, .str b => if a.length + b.length ≤ sizeLine then some (.str (a ++ b)) else none
  | .lst a, .lst b => if a.length + b.length ≤ sizeLine then some (.lst (a ++ b)) else none
  | .tup a, .tup b => if a.length + b.length ≤ sizeLine then some (.tup (a ++ b)) else none
  | _, _ => none
def rAddA (K : PySem.W.Frag) : R2 := fun x y H Q => rI0 (fun i j => .int (i + j)) x y H Q ∨ (fun x y H Q => ∃ i j, x = .str i ∧ y = .str j ∧ i.length + j.length ≤ sizeLine ∧ Q (.str (i ++ j)) H : R2) x y H Q ∨ rCat x y H Q ∨ rCatA K x y H Q
theorem op_addA : OpR X (binaryOp .Add) (rAddA X.K) := OpR.or op_add (OpR.or op_add_str (OpR.or op_cat op_catA))
theorem prim_add : Prim2 c (rAddA c.K) (pur2 addF) := prim2 fun H0 F H env σ x y v u d Q g hx hy e k => by
  unfold addF at e
  split at e
  · cases e
    simp only [Rp] at hx hy
    subst hx; subst hy
    exact .inl ⟨_, _, rfl, rfl, k F H (Step.refl g) _ (by simp [Rp])⟩
  · split at e
    · cases e
      simp only [Rp] at hx hy
      subst hx; subst hy
      exact .inr (.inl ⟨_, _, rfl, rfl, by assumption, k F H (Step.refl g) _ (by simp [Rp])⟩)
    · cases e
  · split at e
    · cases e
      simp only [Rp] at hx hy
      obtain ⟨a, xs, rfl, h1, r1⟩ := hx
      obtain ⟨b, ys, rfl, h2, r2⟩ := hy
      refine .inr (.inr (.inl ⟨a, b, xs, ys, rfl, rfl, g.le _ _ h1, g.le _ _ h2, by rw [r1.len, r2.len]; assumption, fun p hp => ?_⟩))
      have st := g.alloc (o := .lst (xs ++ ys)) hp
      refine k _ _ st _ ?_
      simp only [Rp]
      exact ⟨p, _, rfl, upd_same, RpL.mono st.same _ _ (r1.append r2)⟩
    · cases e
  · split at e
    · cases e
      simp only [Rp] at hx hy
      obtain ⟨a, xs, rfl, h1, r1⟩ := hx
      obtain ⟨b, ys, rfl, h2, r2⟩ := hy
      refine .inr (.inr (.inr ⟨a, b, xs, ys, rfl, rfl, same_T g.le h1, same_T g.le h2, by rw [r1.len, r2.len]; assumption, fun z => ?_, fun z z2 => ?_, fun z z2 p hp => ?_⟩))
      · refine k F H (Step.refl g) _ ?_
        simp only [Rp]
        refine ⟨b, ys, rfl, h2, ?_⟩
        have := r1.append r2
        rw [z] at this
        simpa using this
      · refine k F H (Step.refl g) _ ?_
        simp only [Rp]
        refine ⟨a, xs, rfl, h1, ?_⟩
        have := r1.append r2
        rw [z2] at this
        simpa using this
      · have st := g.alloc (o := .tup (xs ++ ys)) hp
        refine k _ _ st _ ?_
        simp only [Rp]
        exact ⟨p, _, rfl, SqT.of upd_same, RpL.mono st.same _ _ (r1.append r2)⟩
    · cases e
  · cases e
/-- two ints, under a condition -/
def intF (C : Int → Int → Bool) (g : Int → Int → D) : D → D → Option D
  | .int i, .int j => if C i j = true then some (g i j) else none
  | _, _ => none
theorem prim_int {Cp : Int → Int → Prop} {C : Int → Int → Bool} {gd : Int → Int → D} {gv : Int → Int → V} (hC : ∀ i j, C i j = true → Cp i j) (hg : ∀ i j, flatD (gd i j) = some (gv i j)) : Prim2 c (rI Cp gv) (pur2 (intF C gd)) := prim2 fun H0 F H env σ x y v u d Q g hx hy e k => by
  unfold intF at e
  split at e
  · split at e
    · cases e
      simp only [Rp] at hx hy
      subst hx; subst hy
      exact ⟨_, _, rfl, rfl, hC _ _ (by assumption), k F H (Step.refl g) _ (flatD_rp (hg _ _))⟩
    · cases e
  · cases e
theorem op_i0 {f : Value → Value → Sem Value} {g : Int → Int → V} (h : OpR X f (rI0 g)) : OpR X f (rI (fun _ _ => True) g) := fun pins s σ H x y v u Q I rx ry ⟨i, j, e1, e2, _, q⟩ => h pins s σ H x y v u Q I rx ry ⟨i, j, e1, e2, q⟩
def yes2 (_ _ : Int) : Bool := true
abbrev subF := intF yes2 fun i j => .int (i - j)
theorem prim_sub : Prim2 c (rI (fun _ _ => True) fun i j => .int (i - j)) (pur2 subF) := prim_int (fun _ _ _ => trivial) fun _ _ => rfl
abbrev mulF := intF (fun i j => decide (i.natAbs.log2 + j.natAbs.log2 < 1000000)) fun i j => .int (i * j)
theorem prim_mul : Prim2 c (rI CMulW fun i j => .int (i * j)) (pur2 mulF) := prim_int (fun i j h => by simpa [CMulW, CDivW] using h) fun _ _ => rfl
abbrev fdivF := intF (fun _ j => decide (0 < j ∧ j.natAbs.log2 < 9000)) fun i j => .int (i / j)
theorem prim_fdiv : Prim2 c (rI CDivW fun i j => .int (i / j)) (pur2 fdivF) := prim_int (fun i j h => by simpa [CMulW, CDivW] using h) fun _ _ => rfl
abbrev modF := intF (fun _ j => decide (0 < j)) fun i j => .int (i % j)
theorem prim_mod : Prim2 c (rI (fun _ j => 0 < j) fun i j => .int (i % j)) (pur2 modF) := prim_int (fun i j h => by simpa [CMulW, CDivW] using h) fun _ _ => rfl
abbrev powF := intF (fun i j => decide (0 ≤ j ∧ j ≤ 1000000 ∧ i.natAbs < 18446744073709551616)) fun i j => .int (i ^ j.toNat)
theorem prim_pow : Prim2 c (rI CPow fun i j => .int (i ^ j.toNat)) (pur2 powF) := prim_int (fun _ _ h => by have := of_decide_eq_true h; exact ⟨this.1, this.2.1, by simpa using this.2.2⟩) fun _ _ => rfl
/-- the order of texts -/
def ltS (a b : Str) : Bool := decide (a.cps.toList < b.cps.toList)
def rCmpA (gi : Int → Int → Bool) (gs : Str → Str → Bool) : R2 := fun x y H Q => rI0 (fun i j => .bl (gi i j)) x y H Q ∨ (fun x y H Q => ∃ i j, x = .str i ∧ y = .str j ∧ Q (.bl (gs i j)) H : R2) x y H Q
def cmpF (gi : Int → Int → Bool) (gs : Str → Str → Bool) : D → D → Option D
  | .int i, .int j => some (.bl (gi i j))
  | .str i, .str j => some (.bl (gs i j))
  | _, _ => none
theorem prim_cmp {gi : Int → Int → Bool} {gs : Str → Str → Bool} : Prim2 c (rCmpA gi gs) (pur2 (cmpF gi gs)) := prim2 fun H0 F H env σ x y v u d Q g hx hy e k => by
  unfold cmpF at e
  split at e
  · cases e
    simp only [Rp] at hx hy
    subst hx; subst hy
    exact .inl ⟨_, _, rfl, rfl, k F H (Step.refl g) _ (by simp [Rp])⟩
  · cases e
    simp only [Rp] at hx hy
    subst hx; subst hy
    exact .inr ⟨_, _, rfl, rfl, k F H (Step.refl g) _ (by simp [Rp])⟩
  · cases e
abbrev ltF := cmpF (fun i j => decide (i < j)) ltS
abbrev leF := cmpF (fun i j => decide (i ≤ j)) fun a b => !ltS b a
abbrev gtF := cmpF (fun i j => decide (j < i)) fun a b => ltS b a
abbrev geF := cmpF (fun i j => decide (j ≤ i)) fun a b => !ltS a b
theorem op_ltA : OpR X (compareOp .Lt) (rCmpA (fun i j => decide (i < j)) ltS) := OpR.or op_lt op_lt_str
theorem op_leA : OpR X (compareOp .LtE) (rCmpA (fun i j => decide (i ≤ j)) fun a b => !ltS b a) := OpR.or op_le op_le_str
theorem op_gtA : OpR X (compareOp .Gt) (rCmpA (fun i j => decide (j < i)) fun a b => ltS b a) := OpR.or op_gt op_gt_str
theorem op_geA : OpR X (compareOp .GtE) (rCmpA (fun i j => decide (j ≤ i)) fun a b => !ltS a b) := OpR.or op_ge op_ge_str

/-! ### data that the library knows: ==, in -/
mutual
def D.toP : D → PyData
  | .non => .none
  | .bl b => .bool b
  | .int i => .int i
  | .str s => .str s
  | .tup l => .tuple (toPL l)
  | .lst l => .list (toPL l)
  | .ro l => .list (toPL l)
  | _ => .none
def toPL : List D → List PyData
  | [] => []
  | d :: ds => d.toP :: toPL ds
end
mutual
def D.pure : D → Bool
  | .tup l => pureL l
  | .lst l => pureL l
  | .ro l => pureL l
  | .dK _ _ => false
  | .dT _ _ => false
  | .obj _ _ _ => false
  | _ => true
def pureL : List D → Bool
  | [] => true
  | d :: ds => d.pure && pureL ds
end
mutual
theorem Rp.dp {K : PySem.W.Frag} {cm : Str → Option Addr} {F : Hp} : ∀ (d : D) (v : V), d.pure = true → Rp K cm F d v → Dp K F v d.toP
  | .non, v, _, h => by simp only [Rp] at h; subst h; exact .non
  | .bl b, v, _, h => by simp only [Rp] at h; subst h; exact .bl b
  | .int i, v, _, h => by simp only [Rp] at h; subst h; exact .int i
  | .str s, v, _, h => by simp only [Rp] at h; subst h; exact .str s
  | .tup l, v, p, h => by
    simp only [Rp] at h; simp only [D.pure] at p; simp only [D.toP]
    obtain ⟨a, xs, rfl, q, r⟩ := h
    exact .tup q (RpL.dp l xs p r)
  | .lst l, v, p, h => by
    simp only [Rp] at h; simp only [D.pure] at p; simp only [D.toP]
    obtain ⟨a, xs, rfl, q, r⟩ := h
    exact .lst (SqL.of q) (RpL.dp l xs p r)
  | .ro l, v, p, h => by
    simp only [Rp] at h; simp only [D.pure] at p; simp only [D.toP]
    obtain ⟨a, xs, rfl, q, r⟩ := h
    exact .lst q (RpL.dp l xs p r)
  | .dK _ _, v, p, h => by simp [D.pure] at p
  | .dT _ _, v, p, h => by simp [D.pure] at p
  | .obj _ _ _, v, p, h => by simp [D.pure] at p
theorem RpL.dp {K : PySem.W.Frag} {cm : Str → Option Addr} {F : Hp} : ∀ (ds : List D) (vs : List V), pureL ds = true → RpL K cm F ds vs → DpAll K F vs (toPL ds)
  | [], vs, _, h => by simp only [RpL] at h; subst h; exact .nil
  | d :: ds, vs, p, h => by
    simp only [RpL] at h; simp only [pureL, Bool.and_eq_true] at p; simp only [toPL]
    obtain ⟨v, r, rfl, q, t⟩ := h
    exact .cons (Rp.dp d v p.1 q) (RpL.dp ds r p.2 t)
end
def okP (d : D) : Bool := d.pure && SeqAt.shaped d.toP
def eqO (n : Bool) (x y : D) : Option D := if (okP x && okP y) = true then some (.bl (if n then !PyData.eqv x.toP y.toP else PyData.eqv x.toP y.toP)) else none
def twoS (x y : D) : Option (Str × Str) := match x, y with
  | .str a, .str b => some (a, b)
  | _, _ => none
/-- ==, != of data; of texts whatever their signs -/
def eqF (n : Bool) (x y : D) : Option D := match twoS x y with
  | some (a, b) => some (.bl (if n then !decide (a = b) else decide (a = b)))
  | none => eqO n x y
def rEqA (K : PySem.W.Frag) (n : Bool) : R2 := fun x y H Q => (if n then rNeD K else rEqD K) x y H Q ∨ (if n then rNe else rEq) x y H Q
theorem op_eqA (hu : X.A.units + 64 < cLine) : OpR X (compareOp .Eq) (rEqA X.K false) := fun pins s σ H x y v u Q I rx ry q => q.elim (op_eqD hu pins s σ H x y v u Q I rx ry) (op_eq pins s σ H x y v u Q I rx ry)
theorem op_neA (hu : X.A.units + 64 < cLine) : OpR X (compareOp .NotEq) (rEqA X.K true) := fun pins s σ H x y v u Q I rx ry q => q.elim (op_neD hu pins s σ H x y v u Q I rx ry) (op_ne pins s σ H x y v u Q I rx ry)
theorem twoS_eq {x y : D} {a b : Str} (h : twoS x y = some (a, b)) : x = .str a ∧ y = .str b := by
  unfold twoS at h
  split at h
  · cases h; exact ⟨rfl, rfl⟩
  · cases h
theorem prim_eqB {n : Bool} : Prim2 c (rEqA c.K n) (pur2 (eqF n)) := prim2 fun H0 F H env σ x y v u d Q g hx hy e k => by
  unfold eqF at e
  split at e
  · rename_i a b ht
    obtain ⟨rfl, rfl⟩ := twoS_eq ht
    cases e
    simp only [Rp] at hx hy
    subst hx; subst hy
    have q := k F H (Step.refl g) (.bl (if n then !decide (a = b) else decide (a = b))) (by simp [Rp])
    have e2 : decide (V.str a = V.str b) = decide (a = b) := by simp
    right
    cases n with
    | true => exact ⟨rfl, by rw [e2]; exact q⟩
    | false => exact ⟨rfl, by rw [e2]; exact q⟩
  · unfold eqO at e
    split at e
    · rename_i p
      simp only [Bool.and_eq_true, okP] at p
      cases e
      left
      have q : ∀ b, b = (if n then !PyData.eqv x.toP y.toP else PyData.eqv x.toP y.toP) → Q (.bl b) H := fun b hb => k F H (Step.refl g) _ (by simp [Rp, hb])
      cases n with
      | true => exact ⟨_, _, Rp.dp _ _ p.1.1 (Rp.mono g.le _ _ hx), Rp.dp _ _ p.2.1 (Rp.mono g.le _ _ hy), p.1.2, p.2.2, q _ rfl⟩
      | false => exact ⟨_, _, Rp.dp _ _ p.1.1 (Rp.mono g.le _ _ hx), Rp.dp _ _ p.2.1 (Rp.mono g.le _ _ hy), p.1.2, p.2.2, q _ rfl⟩
    · cases e
end
end DL

/-! ==== DL3 -/
/-! DL3: in, places, slices, displays, built-ins -/
namespace DL
open PySem L2

/-! ### readings of lists of data -/
def asV : List D → Option (List V)
  | [] => some []
  | d :: ds => match flatD d, asV ds with
    | some v, some vs => some (v :: vs)
    | _, _ => none
def asS : List D → Option (List Str)
  | [] => some []
  | .str s :: ds => (asS ds).map (s :: ·)
  | _ :: _ => none
def asI : List D → Option (List Int)
  | [] => some []
  | .int s :: ds => (asI ds).map (s :: ·)
  | _ :: _ => none
def asB : List D → Option (List Bool)
  | [] => some []
  | .bl s :: ds => (asB ds).map (s :: ·)
  | _ :: _ => none
def seqOf : D → Option (List D)
  | .tup l => some l
  | .lst l => some l
  | .ro l => some l
  | _ => none
section
variable {K : PySem.W.Frag} {cm : Str → Option Addr} {F : Hp}
theorem flatD_eq {d : D} {v u : V} (h : flatD d = some v) (r : Rp K cm F d u) : u = v := by
  cases d <;> simp [flatD] at h <;> subst h <;> simpa [Rp] using r
theorem asV_eq : ∀ {ds : List D} {vs us : List V}, asV ds = some vs → RpL K cm F ds us → us = vs
  | [], vs, us, h, r => by simp [asV] at h; simp only [RpL] at r; subst h; exact r
  | d :: ds, vs, us, h, r => by
    simp only [RpL] at r
    obtain ⟨v, w, rfl, r1, r2⟩ := r
    unfold asV at h
    split at h
    · rename_i a b e1 e2
      cases h
      rw [flatD_eq e1 r1, asV_eq e2 r2]
    · cases h
theorem asS_eq : ∀ {ds : List D} {ys : List Str} {us : List V}, asS ds = some ys → RpL K cm F ds us → us = ys.map V.str
  | [], ys, us, h, r => by simp [asS] at h; simp only [RpL] at r; subst h; exact r
  | d :: ds, ys, us, h, r => by
    simp only [RpL] at r
    obtain ⟨v, w, rfl, r1, r2⟩ := r
    unfold asS at h
    split at h
    · rename_i e; cases e
    · rename_i e
      cases e
      obtain ⟨z, e2, rfl⟩ := Option.map_eq_some_iff.mp h
      simp only [Rp] at r1
      rw [r1, asS_eq e2 r2]
      rfl
    · cases h
theorem asI_eq : ∀ {ds : List D} {ys : List Int} {us : List V}, asI ds = some ys → RpL K cm F ds us → us = ys.map V.int
  | [], ys, us, h, r => by simp [asI] at h; simp only [RpL] at r; subst h; exact r
  | d :: ds, ys, us, h, r => by
    simp only [RpL] at r
    obtain ⟨v, w, rfl, r1, r2⟩ := r
    unfold asI at h
    split at h
    · rename_i e; cases e
    · rename_i e
      cases e
      obtain ⟨z, e2, rfl⟩ := Option.map_eq_some_iff.mp h
      simp only [Rp] at r1
      rw [r1, asI_eq e2 r2]
      rfl
    · cases h
theorem asB_eq : ∀ {ds : List D} {ys : List Bool} {us : List V}, asB ds = some ys → RpL K cm F ds us → us = ys.map V.bl
  | [], ys, us, h, r => by simp [asB] at h; simp only [RpL] at r; subst h; exact r
  | d :: ds, ys, us, h, r => by
    simp only [RpL] at r
    obtain ⟨v, w, rfl, r1, r2⟩ := r
    unfold asB at h
    split at h
    · rename_i e; cases e
    · rename_i e
      cases e
      obtain ⟨z, e2, rfl⟩ := Option.map_eq_some_iff.mp h
      simp only [Rp] at r1
      rw [r1, asB_eq e2 r2]
      rfl
    · cases h
theorem seqOf_rp {d : D} {l : List D} {v : V} (h : seqOf d = some l) (r : Rp K cm F d v) : ∃ a xs, v = .ref a ∧ (SqL K F a xs ∨ SqT K F a xs) ∧ RpL K cm F l xs := by
  cases d <;> simp [seqOf] at h <;> subst h <;> simp only [Rp] at r <;> obtain ⟨a, xs, rfl, q, r⟩ := r
  · exact ⟨a, xs, rfl, .inr q, r⟩
  · exact ⟨a, xs, rfl, .inl (SqL.of q), r⟩
  · exact ⟨a, xs, rfl, .inl q, r⟩
theorem sq_mono {F F' : Hp} (s : Same F F') {a : Addr} {xs : List V} (h : SqL K F a xs ∨ SqT K F a xs) : SqL K F' a xs ∨ SqT K F' a xs := h.elim (fun h => .inl (s.seq h)) fun h => .inr (same_T s h)
theorem atI_rp {ds : List D} {vs : List V} {i : Int} {d : D} (r : RpL K cm F ds vs) (h : atI ds i = some d) : ∃ v, atI vs i = some v ∧ Rp K cm F d v := by
  unfold atI at h ⊢
  rw [r.len]
  cases e : ixN ds.length i with
  | none => rw [e] at h; cases h
  | some j =>
    rw [e] at h
    exact r.get h
end

section
variable {c : Kc} {W : WX} {X : Cx} {H0 F H : Hp} {env : Env} {σ : L2.St} {Q : VK}

/-! ### in -/
def rInT (K : PySem.W.Frag) (n : Bool) : R2 := fun x y H Q => ∃ d ds, Dp K H x d ∧ Dp K H y (.tuple ds) ∧ SeqAt.shaped d = true ∧ SeqAt.shaped (.tuple ds) = true ∧ Q (.bl (if n then !ds.any (fun z => PyData.eqv z d) else ds.any fun z => PyData.eqv z d)) H
theorem op_inT (hu : X.A.units + 65 < cLine) : OpR X (compareOp .In) (rInT X.K false) := by
  intro pins s σ H x y v u Q I rx ry ⟨d, ds, hd, he, sd, se, q⟩
  obtain ⟨as, r1⟩ := Dp.reads I d x v hd rx
  obtain ⟨bs, r2⟩ := Dp.reads I (.tuple ds) y u he ry
  exact SeqAt.in_tuple_reads r2 r1 (SeqAt.canLay_of_shaped se) (SeqAt.canLay_of_shaped sd) (PyProof.Rows.room_in_shaped sd hu) ⟨.bl _, H, I, rfl, q⟩
theorem op_ninT (hu : X.A.units + 65 < cLine) : OpR X (compareOp .NotIn) (rInT X.K true) := by
  intro pins s σ H x y v u Q I rx ry ⟨d, ds, hd, he, sd, se, q⟩
  obtain ⟨as, r1⟩ := Dp.reads I d x v hd rx
  obtain ⟨bs, r2⟩ := Dp.reads I (.tuple ds) y u he ry
  exact SeqAt.notIn_tuple_reads r2 r1 (SeqAt.canLay_of_shaped se) (SeqAt.canLay_of_shaped sd) (PyProof.Rows.room_in_shaped sd hu) ⟨.bl _, H, I, rfl, q⟩
def rInS (n : Bool) : R2 := fun x y H Q => ∃ (k : Nat) (z : Str), x = .str ⟨#[k]⟩ ∧ y = .str z ∧ Q (.bl (if n then !decide (k ∈ z.cps.toList) else decide (k ∈ z.cps.toList))) H
def rInL (K : PySem.W.Frag) (n : Bool) : R2 := fun x y H Q => ∃ d ds, Dp K H x d ∧ Dp K H y (.list ds) ∧ SeqAt.shaped d = true ∧ SeqAt.shaped (.list ds) = true ∧ Q (.bl (if n then !ds.any (fun z => PyData.eqv z d) else ds.any fun z => PyData.eqv z d)) H
def rInAll (K : PySem.W.Frag) (n : Bool) : R2 := fun x y H Q => rIn K n x y H Q ∨ rInS n x y H Q ∨ rInL K n x y H Q ∨ rInT K n x y H Q
theorem op_inAll (hu : X.A.units + 65 < cLine) : OpR X (compareOp .In) (rInAll X.K false) := OpR.or op_in_seq (OpR.or op_in_sign (OpR.or (op_inD hu) (op_inT hu)))
theorem op_ninAll (hu : X.A.units + 65 < cLine) : OpR X (compareOp .NotIn) (rInAll X.K true) := OpR.or op_notIn_seq (OpR.or op_notIn_sign (OpR.or (op_notInD hu) (op_ninT hu)))
def signOf (s : Str) : Option Nat := match s.cps.toList with
  | [k] => some k
  | _ => none
theorem signOf_eq {s : Str} {k : Nat} (h : signOf s = some k) : s = ⟨#[k]⟩ := by
  obtain ⟨a⟩ := s
  unfold signOf at h
  split at h
  · rename_i k' e
    cases h
    have : a = #[k] := by
      obtain ⟨l⟩ := a
      simp at e
      rw [e]
    rw [this]
  · cases h
def inF (n : Bool) (x y : D) : Option D := match y with
  | .str z => match x with
    | .str s => (signOf s).map fun k => .bl (if n then !decide (k ∈ z.cps.toList) else decide (k ∈ z.cps.toList))
    | _ => none
  | y => match seqOf y with
    | none => none
    | some l => match flatD x, asV l with
      | some v, some vs => if (flatV v && vs.all flatV) = true then some (.bl (if n then !inV v vs else inV v vs)) else none
      | _, _ => if (okP x && okP y) = true then some (.bl (if n then !(toPL l).any (fun z => PyData.eqv z x.toP) else (toPL l).any fun z => PyData.eqv z x.toP)) else none
theorem prim_in {n : Bool} : Prim2 c (rInAll c.K n) (pur2 (inF n)) := prim2 fun H0 F H env σ x y v u d Q g hx hy e k => by
  unfold inF at e
  split at e
  · split at e
    · obtain ⟨z, e1, rfl⟩ := Option.map_eq_some_iff.mp e
      simp only [Rp] at hx hy
      subst hy
      rw [signOf_eq e1] at hx
      subst hx
      exact .inr (.inl ⟨_, _, rfl, rfl, k F H (Step.refl g) _ (by simp [Rp])⟩)
    · cases e
  · rename_i y' hny
    split at e
    · cases e
    · rename_i l hl
      split at e
      · rename_i v' vs' e1 e2
        split at e
        · rename_i hf
          simp only [Bool.and_eq_true] at hf
          cases e
          obtain ⟨a, xs, rfl, q, r⟩ := seqOf_rp hl hy
          obtain rfl := flatD_eq e1 hx
          obtain rfl := asV_eq e2 r
          exact .inl ⟨a, _, rfl, sq_mono g.le q, hf.1, hf.2, k F H (Step.refl g) _ (by simp [Rp])⟩
        · cases e
      · split at e
        · rename_i p
          simp only [Bool.and_eq_true, okP] at p
          cases e
          have k' := k F H (Step.refl g) (.bl _) (by simp only [Rp]; rfl)
          have d1 := Rp.dp _ _ p.1.1 (Rp.mono g.le _ _ hx)
          have d2 := Rp.dp _ _ p.2.1 (Rp.mono g.le _ _ hy)
          cases y <;> simp [seqOf] at hl <;> subst hl <;> simp only [D.toP] at d2 p
          · exact .inr (.inr (.inr ⟨_, _, d1, d2, p.1.2, p.2.2, k'⟩))
          · exact .inr (.inr (.inl ⟨_, _, d1, d2, p.1.2, p.2.2, k'⟩))
          · exact .inr (.inr (.inl ⟨_, _, d1, d2, p.1.2, p.2.2, k'⟩))
        · cases e

/-! ### places -/
def ixF : D → D → Option D
  | .str z, .int i => if z.length ≤ sizeLine then (atI z.cps.toList i).map fun k => .str ⟨#[k]⟩ else none
  | x, .int i => (seqOf x).bind fun l => atI l i
  | _, _ => none
theorem prim_ix : Prim2 c (rIx c.K) (pur2 ixF) := prim2 fun H0 F H env σ x y v u d Q g hx hy e k => by
  unfold ixF at e
  split at e
  · split at e
    · obtain ⟨z, e1, rfl⟩ := Option.map_eq_some_iff.mp e
      simp only [Rp] at hx hy
      subst hx; subst hy
      exact .inr (.inr ⟨_, _, _, rfl, rfl, by assumption, e1, k F H (Step.refl g) _ (by simp [Rp])⟩)
    · cases e
  · obtain ⟨l, e1, e2⟩ := Option.bind_eq_some_iff.mp e
    simp only [Rp] at hy
    subst hy
    obtain ⟨a, xs, rfl, q, r⟩ := seqOf_rp e1 hx
    obtain ⟨w, h1, h2⟩ := atI_rp r e2
    rcases q with q | q
    · exact .inl ⟨a, xs, _, w, rfl, rfl, g.le.seq q, h1, k F H (Step.refl g) _ h2⟩
    · exact .inr (.inl ⟨a, xs, _, w, rfl, rfl, same_T g.le q, h1, k F H (Step.refl g) _ h2⟩)
  · cases e
/-- an own object's list -/
def lstOf : Option SV → Option (List D)
  | some (.own (.L l)) => some l
  | some (.bor (.L l)) => some l
  | _ => none
theorem own_list (g : c.Good H0 F env σ H) {i : Nat} {l : List D} (e : lstOf env[i]? = some l) : ∃ a xs, σ[i]? = some (some (.ref a)) ∧ H a = some (.lst xs) ∧ RpL c.K c.cm F l xs := by
  cases h : env[i]? with
  | none => rw [h] at e; cases e
  | some sv =>
    rw [h] at e
    have := g.slot i sv h
    unfold lstOf at e
    split at e
    · rename_i h'; cases h'; cases e; obtain ⟨a, h1, h2, xs, h3, h4⟩ := this; exact ⟨a, xs, h1, h3, h4⟩
    · rename_i h'; cases h'; cases e; obtain ⟨a, h1, h2, xs, h3, h4⟩ := this; exact ⟨a, xs, h1, h3, h4⟩
    · cases e
/-- a use of an own list by its name: what is reckoned first may change its content, it is looked at behind it -/
def ownUse {α β : Type} (i : Nat) (rb : Env → Out α) (f : List D → α → Env → Out β) (e : Env) : Out β := match lstOf e[i]? with
  | none => .no
  | some _ => (rb e).bind fun k e1 => match lstOf e1[i]? with
    | none => .no
    | some l => f l k e1
def ownIx (i : Nat) (rb : Env → Out D) : Env → Out D := ownUse i rb fun l k e => match k with
  | .int n => (match atI l n with | some d => .ok d e | none => .no)
  | _ => .no
theorem dl_ownIx {e : Expr} {i : Nat} {rb : Env → Out D} (h : PE X e (tOp (rIx c.K) (tVar i) (tD c W rb))) : PE X e (tD c W (ownIx i rb)) := h.imp fun σ H Q ⟨H0, F, env, g, q⟩ => by
  unfold ownIx ownUse at q
  split at q
  · exact q.elim
  · rename_i l0 e0
    obtain ⟨a, xs0, ha, _, _⟩ := own_list g e0
    refine ⟨_, ha, H0, F, env, g, q.seq fun k e1 F1 H1 s1 q1 u hu => ?_⟩
    split at q1
    · exact q1.elim
    · rename_i l el
      obtain ⟨a', xs, ha', hH, r⟩ := own_list s1.good el
      rw [ha] at ha'; cases ha'
      dsimp only at q1
      split at q1
      · rename_i n
        split at q1
        · rename_i d ed
          simp only [Rp] at hu
          subst hu
          obtain ⟨w, h1, h2⟩ := atI_rp r ed
          exact .inl ⟨a, xs, n, w, rfl, rfl, SqL.of hH, h1, q1.ret s1.good w h2⟩
        · exact q1.elim
      · exact q1.elim

/-! ### argument lists, displays -/
def nilA (e : Env) : Out (List D) := .ok [] e
def consA (ra : Env → Out D) (rr : Env → Out (List D)) (e : Env) : Out (List D) := (ra e).bind fun x e1 => (rr e1).bind fun xs e2 => .ok (x :: xs) e2
theorem tA_nil : PA X [] (tA c W nilA) := pa_nil.imp fun σ H Q ⟨H0, F, env, g, q⟩ => q.ret g [] RpL.nil
theorem tA_cons {e : Expr} {es : List Expr} {ra : Env → Out D} {rr : Env → Out (List D)} (h : PA X (e :: es) (tCons (tD c W ra) (tA c W rr))) : PA X (e :: es) (tA c W (consA ra rr)) := h.imp fun σ H Q ⟨H0, F, env, g, q⟩ =>
  ⟨H0, F, env, g, q.seq fun x e1 F1 H1 s1 q1 v hv => ⟨H0, F1, e1, s1.good, q1.seq fun xs e2 F2 H2 s2 q2 vs hvs => q2.ret s2.good (v :: vs) (RpL.cons (Rp.mono s2.same _ _ hv) hvs)⟩⟩
def tupD (ra : Env → Out (List D)) (e : Env) : Out D := (ra e).bind fun ds e1 => if ds.length ≤ sizeLine then .ok (.tup ds) e1 else .no
theorem dl_tup {e : Expr} {ra : Env → Out (List D)} (h : PE X e (tTup (tA c W ra))) : PE X e (tD c W (tupD ra)) := h.imp fun σ H Q ⟨H0, F, env, g, q⟩ =>
  ⟨H0, F, env, g, q.seq fun ds e1 F1 H1 s1 q1 vs hv => by
    split at q1
    · refine ⟨by rw [hv.len]; assumption, fun p hp => ?_⟩
      have st := s1.good.alloc (o := .tup vs) hp
      refine q1 _ _ st _ ?_
      simp only [Rp]
      exact ⟨p, vs, rfl, SqT.of upd_same, RpL.mono st.same _ _ hv⟩
    · exact q1.elim⟩
def lstF (ra : Env → Out (List D)) (e : Env) : Out (List D) := (ra e).bind fun ds e1 => if ds.length ≤ sizeLine then .ok ds e1 else .no
theorem dl_lstF {e : Expr} {ra : Env → Out (List D)} (h : PE X e (tLst (tA c W ra))) : PE X e (tF c W (lstF ra)) := h.imp fun σ H Q ⟨H0, F, env, g, q⟩ =>
  ⟨H0, F, env, g, q.seq fun ds e1 F1 H1 s1 q1 vs hv => by
    split at q1
    · refine ⟨by rw [hv.len]; assumption, fun p hp => ?_⟩
      obtain ⟨g2, ap⟩ := s1.good.lay (o := .lst vs) hp
      exact q1 F1 _ ⟨Same.refl _, EnvLe.refl _, g2, fun _ _ _ e => e⟩ _ ⟨p, vs, rfl, ap, hv⟩
    · exact q1.elim⟩
/-- a new list taken as data -/
def heldD (rf : Env → Out (List D)) (e : Env) : Out D := (rf e).bind fun ds e1 => .ok (.lst ds) e1
theorem dl_held {e : Expr} {rf : Env → Out (List D)} (h : PE X e (tF c W rf)) : PE X e (tD c W (heldD rf)) := h.imp fun σ H Q ⟨H0, F, env, g, q⟩ =>
  ⟨H0, F, env, g, q.seq fun ds e1 F1 H1 s1 q1 v ⟨p, xs, hv, ap, rp⟩ => by
    subst hv
    have st := s1.good.hold ap
    refine q1 _ _ st _ ?_
    simp only [Rp]
    exact ⟨p, xs, rfl, upd_same, RpL.mono st.same _ _ rp⟩⟩

/-! ### slices -/
def tO (c : Kc) (W : WX) (r : Env → Out (Option Int)) : TO := fun σ H Q => ∃ H0 F env, c.Good H0 F env σ H ∧ Res c W H0 F env σ (r env) fun o _ _ H' => Q o H'
theorem _root_.L2.PO.imp {X : Cx} {e : Option Expr} {t t' : TO} (h : PO X e t) (i : ∀ σ H Q, t' σ H Q → t σ H Q) : PO X e t' := ⟨fun pins s σ H Q I q => h.run pins s σ H Q I (i σ H Q q)⟩
def noO (e : Env) : Out (Option Int) := .ok none e
def someO (ra : Env → Out D) (e : Env) : Out (Option Int) := (ra e).bind fun d e1 => match d with
  | .int i => .ok (some i) e1
  | _ => .no
theorem tO_none : PO X none (tO c W noO) := po_none.imp fun σ H Q ⟨H0, F, env, g, q⟩ => q.ret g
theorem tO_some {e : Option Expr} {ra : Env → Out D} (h : PO X e (tPart (tD c W ra))) : PO X e (tO c W (someO ra)) := h.imp fun σ H Q ⟨H0, F, env, g, q⟩ =>
  ⟨H0, F, env, g, q.seq fun d e1 F1 H1 s1 q1 v hv => by
    split at q1
    · simp only [Rp] at hv
      exact ⟨_, hv, q1.ret s1.good⟩
    · exact q1.elim⟩
def cutL {α : Type} (l : List α) (lo hi : Option Int) : List α := (l.drop (HT.sIx l.length 0 lo)).take (HT.sIx l.length l.length hi - HT.sIx l.length 0 lo)
theorem cutL_rp {ds : List D} {vs : List V} (r : RpL c.K c.cm F ds vs) (lo hi : Option Int) : RpL c.K c.cm F (cutL ds lo hi) (cutV vs lo hi) := by
  unfold cutL cutV
  rw [r.len]
  exact (r.drop _).take _
def sl3 (ra : Env → Out D) (rl rh : Env → Out (Option Int)) {β : Type} (f : D → Option Int → Option Int → Env → Out β) (e : Env) : Out β :=
  (ra e).bind fun x e1 => (rl e1).bind fun lo e2 => (rh e2).bind fun hi e3 => f x lo hi e3
/-- a slice of a text, a tuple -/
def cutF (x : D) (lo hi : Option Int) (e : Env) : Out D := match x with
  | .str z => if z.length ≤ sizeLine then .ok (.str (cutS z lo hi)) e else .no
  | .tup l => .ok (.tup (cutL l lo hi)) e
  | _ => .no
def rSlTS (K : PySem.W.Frag) : V → Option Int → Option Int → Hp → VK → Prop := fun x lo hi H Q => rSlS x lo hi H Q ∨ rSlA K x lo hi H Q
theorem sl_ts : SlR X (rSlTS X.K) := SlR.or sl_str sl_tupA
theorem dl_cut {e : Expr} {ra : Env → Out D} {rl rh : Env → Out (Option Int)} (h : PE X e (tSl (rSlTS c.K) (tD c W ra) (tO c W rl) (tO c W rh))) : PE X e (tD c W (sl3 ra rl rh cutF)) := h.imp fun σ H Q ⟨H0, F, env, g, q⟩ =>
  ⟨H0, F, env, g, q.seq fun x e1 F1 H1 s1 q1 v hv => ⟨H0, F1, e1, s1.good, q1.seq fun lo e2 F2 H2 s2 q2 => ⟨H0, F2, e2, s2.good, q2.seq fun hi e3 F3 H3 s3 q3 => by
    have hv := Rp.mono (s2.same.trans s3.same) _ _ hv
    unfold cutF at q3
    split at q3
    · split at q3
      · simp only [Rp] at hv
        subst hv
        exact .inl ⟨_, rfl, by assumption, q3.ret s3.good _ (by simp [Rp])⟩
      · exact q3.elim
    · simp only [Rp] at hv
      obtain ⟨a, xs, rfl, h1, r⟩ := hv
      refine .inr ⟨a, xs, rfl, same_T s3.good.le h1, fun ⟨z1, z2⟩ => ?_, fun _ p hp => ?_⟩
      · refine q3.ret s3.good _ ?_
        simp only [Rp]
        refine ⟨a, xs, rfl, h1, ?_⟩
        have := cutL_rp r lo hi
        have e : cutV xs lo hi = xs := by unfold cutV; rw [z1, z2]; simp
        rwa [e] at this
      · have st := s3.good.alloc (o := .tup (cutV xs lo hi)) hp
        refine q3 _ _ st _ ?_
        simp only [Rp]
        exact ⟨p, _, rfl, SqT.of upd_same, RpL.mono st.same _ _ (cutL_rp r lo hi)⟩
    · exact q3.elim⟩⟩⟩
/-- a slice of a list: a new list -/
def cutLF (x : D) (lo hi : Option Int) (e : Env) : Out (List D) := match x with
  | .lst l => .ok (cutL l lo hi) e
  | .ro l => .ok (cutL l lo hi) e
  | _ => .no
theorem dl_cutL {e : Expr} {ra : Env → Out D} {rl rh : Env → Out (Option Int)} (h : PE X e (tSl (rSlL c.K) (tD c W ra) (tO c W rl) (tO c W rh))) : PE X e (tF c W (sl3 ra rl rh cutLF)) := h.imp fun σ H Q ⟨H0, F, env, g, q⟩ =>
  ⟨H0, F, env, g, q.seq fun x e1 F1 H1 s1 q1 v hv => ⟨H0, F1, e1, s1.good, q1.seq fun lo e2 F2 H2 s2 q2 => ⟨H0, F2, e2, s2.good, q2.seq fun hi e3 F3 H3 s3 q3 => by
    have hv := Rp.mono (s2.same.trans s3.same) _ _ hv
    have fin : ∀ {a : Addr} {xs : List V} {l : List D}, SqL c.K F3 a xs → RpL c.K c.cm F3 l xs → Res c W H0 F3 e3 σ (.ok (cutL l lo hi) e3) (kF c H0 σ Q) → rSlL c.K (.ref a) lo hi H3 Q := fun {a xs l} h1 r q3 => ⟨a, xs, rfl, s3.good.le.seq h1, fun p hp => by
      obtain ⟨g2, ap⟩ := s3.good.lay (o := .lst (cutV xs lo hi)) hp
      exact q3 F3 _ ⟨Same.refl _, EnvLe.refl _, g2, fun _ _ _ e => e⟩ _ ⟨p, _, rfl, ap, cutL_rp r lo hi⟩⟩
    unfold cutLF at q3
    split at q3
    · simp only [Rp] at hv
      obtain ⟨a, xs, rfl, h1, r⟩ := hv
      exact fin (SqL.of h1) r q3
    · simp only [Rp] at hv
      obtain ⟨a, xs, rfl, h1, r⟩ := hv
      exact fin h1 r q3
    · exact q3.elim⟩⟩⟩

/-! ### built-ins -/
def PrimC (c : Kc) (r : List V → Hp → VK → Prop) (f : List D → Option D) : Prop :=
  ∀ H0 F H env σ ds vs d Q, c.Good H0 F env σ H → RpL c.K c.cm F ds vs → f ds = some d → (∀ F' H', Step c H0 F env σ F' env H' → ∀ z, Rp c.K c.cm F' d z → Q z H') → r vs H Q
def callD (f : List D → Option D) (ra : Env → Out (List D)) (e : Env) : Out D := (ra e).bind fun ds e1 => match f ds with
  | some d => .ok d e1
  | none => .no
theorem dl_call {e : Expr} {r : List V → Hp → VK → Prop} {f : List D → Option D} {ra : Env → Out (List D)} (h : PE X e (tCB r (tA c W ra))) (p : PrimC c r f) : PE X e (tD c W (callD f ra)) := h.imp fun σ H Q ⟨H0, F, env, g, q⟩ =>
  ⟨H0, F, env, g, q.seq fun ds e1 F1 H1 s1 q1 vs hv => by
    split at q1
    · rename_i d ed
      exact p H0 F1 H1 e1 σ ds vs d Q s1.good hv ed fun F' H' st z hz => q1 F' H' st z hz
    · exact q1.elim⟩
def one (f : D → Option D) : List D → Option D
  | [d] => f d
  | _ => none
theorem primC1 {r : List V → Hp → VK → Prop} {f : D → Option D}
    (h : ∀ H0 F H env σ x v d Q, c.Good H0 F env σ H → Rp c.K c.cm F x v → f x = some d → (∀ F' H', Step c H0 F env σ F' env H' → ∀ z, Rp c.K c.cm F' d z → Q z H') → r [v] H Q) : PrimC c r (one f) := fun H0 F H env σ ds vs d Q g hv e k => by
  unfold one at e
  split at e
  · simp only [RpL] at hv
    obtain ⟨v, w, rfl, r1, rfl⟩ := hv
    exact h H0 F H env σ _ v d Q g r1 e k
  · cases e
def rLenA (K : PySem.W.Frag) : List V → Hp → VK → Prop := fun xs H Q => (∃ p ys, xs = [.ref p] ∧ (SqL K H p ys ∨ SqT K H p ys) ∧ Q (.int ys.length) H) ∨ ∃ z, xs = [.str z] ∧ z.length ≤ sizeLine ∧ Q (.int z.length) H
theorem CallR.or {f : Value} {r r' : List V → Hp → VK → Prop} (h : CallR X f r) (h' : CallR X f r') : CallR X f (fun xs H Q => r xs H Q ∨ r' xs H Q) := fun pins s σ H xs us Q I rv q => q.elim (h pins s σ H xs us Q I rv) (h' pins s σ H xs us Q I rv)
theorem cr_len : CallR X (.builtin "len") (rLenA X.K) := CallR.or call_len_seq call_len_str
def lenF : D → Option D
  | .str z => if z.length ≤ sizeLine then some (.int z.length) else none
  | x => (seqOf x).map fun l => .int l.length
theorem prim_len : PrimC c (rLenA c.K) (one lenF) := primC1 fun H0 F H env σ x v d Q g hx e k => by
  unfold lenF at e
  split at e
  · split at e
    · cases e
      simp only [Rp] at hx
      subst hx
      exact .inr ⟨_, rfl, by assumption, k F H (Step.refl g) _ (by simp [Rp])⟩
    · cases e
  · obtain ⟨l, e1, rfl⟩ := Option.map_eq_some_iff.mp e
    obtain ⟨a, xs, rfl, q, r⟩ := seqOf_rp e1 hx
    exact .inl ⟨a, xs, rfl, sq_mono g.le q, k F H (Step.refl g) _ (by simp [Rp, r.len])⟩
def tupleF (x : D) : Option D := (seqOf x).map .tup
theorem prim_tuple : PrimC c (fun xs H Q => ∃ p ys, xs = [.ref p] ∧ ((SqL c.K H p ys ∧ ∀ l, H l = none → Q (.ref l) (upd H l (.tup ys))) ∨ (SqT c.K H p ys ∧ Q (.ref p) H))) (one tupleF) := primC1 fun H0 F H env σ x v d Q g hx e k => by
  obtain ⟨l, e1, rfl⟩ := Option.map_eq_some_iff.mp e
  obtain ⟨a, xs, rfl, q, r⟩ := seqOf_rp e1 hx
  refine ⟨a, xs, rfl, ?_⟩
  rcases q with q | q
  · refine .inl ⟨g.le.seq q, fun p hp => ?_⟩
    have st := g.alloc (o := .tup xs) hp
    refine k _ _ st _ ?_
    simp only [Rp]
    exact ⟨p, xs, rfl, SqT.of upd_same, RpL.mono st.same _ _ r⟩
  · refine .inr ⟨same_T g.le q, k F H (Step.refl g) _ ?_⟩
    simp only [Rp]
    exact ⟨a, xs, rfl, q, r⟩
def lrOf : D → Option (List D)
  | .lst l => some l
  | .ro l => some l
  | _ => none
def allF (x : D) : Option D := ((lrOf x).bind asB).map fun (bs : List Bool) => .bl (bs.all id)
def anyF (x : D) : Option D := ((lrOf x).bind asB).map fun (bs : List Bool) => .bl (bs.any id)
def sumF (x : D) : Option D := ((lrOf x).bind asI).map fun (bs : List Int) => .int bs.sum
theorem lr_rp {x : D} {v : V} {α : Type} {f : List D → Option α} {z : α} (h : (lrOf x).bind f = some z) (hx : Rp c.K c.cm F x v) : ∃ a xs l, v = .ref a ∧ SqL c.K F a xs ∧ RpL c.K c.cm F l xs ∧ f l = some z := by
  unfold lrOf at h
  split at h
  · simp only [Rp] at hx
    obtain ⟨a, xs, rfl, q, r⟩ := hx
    exact ⟨a, xs, _, rfl, SqL.of q, r, h⟩
  · simp only [Rp] at hx
    obtain ⟨a, xs, rfl, q, r⟩ := hx
    exact ⟨a, xs, _, rfl, q, r, h⟩
  · cases h
theorem prim_all : PrimC c (rAll c.K) (one allF) := primC1 fun H0 F H env σ x v d Q g hx e k => by
  obtain ⟨bs, e1, rfl⟩ := Option.map_eq_some_iff.mp e
  obtain ⟨a, xs, l, rfl, q, r, e2⟩ := lr_rp e1 hx
  obtain rfl := asB_eq e2 r
  exact ⟨a, bs, rfl, g.le.seq q, k F H (Step.refl g) _ (by simp [Rp])⟩
theorem prim_any : PrimC c (rAny c.K) (one anyF) := primC1 fun H0 F H env σ x v d Q g hx e k => by
  obtain ⟨bs, e1, rfl⟩ := Option.map_eq_some_iff.mp e
  obtain ⟨a, xs, l, rfl, q, r, e2⟩ := lr_rp e1 hx
  obtain rfl := asB_eq e2 r
  exact ⟨a, bs, rfl, g.le.seq q, k F H (Step.refl g) _ (by simp [Rp])⟩
theorem prim_sum : PrimC c (rSum c.K) (one sumF) := primC1 fun H0 F H env σ x v d Q g hx e k => by
  obtain ⟨bs, e1, rfl⟩ := Option.map_eq_some_iff.mp e
  obtain ⟨a, xs, l, rfl, q, r, e2⟩ := lr_rp e1 hx
  obtain rfl := asI_eq e2 r
  exact ⟨a, bs, rfl, g.le.seq q, k F H (Step.refl g) _ (by simp [Rp])⟩
/-- of two numbers -/
def max2F : List D → Option D
  | [.int i, .int j] => some (.int (if j > i then j else i))
  | _ => none
def min2F : List D → Option D
  | [.int i, .int j] => some (.int (if j < i then j else i))
  | _ => none
theorem prim_max2 : PrimC c (fun xs H Q => ∃ i j, xs = [.int i, .int j] ∧ Q (.int (if j > i then j else i)) H) max2F := fun H0 F H env σ ds vs d Q g hv e k => by
  unfold max2F at e
  split at e
  · cases e
    simp only [RpL, Rp] at hv
    obtain ⟨v, w, rfl, rfl, v2, w2, rfl, rfl, rfl⟩ := hv
    exact ⟨_, _, rfl, k F H (Step.refl g) _ (by simp only [Rp])⟩
  · cases e
theorem prim_min2 : PrimC c (fun xs H Q => ∃ i j, xs = [.int i, .int j] ∧ Q (.int (if j < i then j else i)) H) min2F := fun H0 F H env σ ds vs d Q g hv e k => by
  unfold min2F at e
  split at e
  · cases e
    simp only [RpL, Rp] at hv
    obtain ⟨v, w, rfl, rfl, v2, w2, rfl, rfl, rfl⟩ := hv
    exact ⟨_, _, rfl, k F H (Step.refl g) _ (by simp only [Rp])⟩
  · cases e
/-- the greatest, the least of a list of numbers -/
def maxI : List Int → Int
  | [] => 0
  | x :: xs => xs.foldl max x
def minI : List Int → Int
  | [] => 0
  | x :: xs => xs.foldl min x
theorem foldl_max_ge : ∀ (xs : List Int) (x : Int), x ≤ xs.foldl max x ∧ (∀ y ∈ xs, y ≤ xs.foldl max x) ∧ (xs.foldl max x = x ∨ xs.foldl max x ∈ xs)
  | [], x => ⟨Int.le_refl _, fun _ h => (nomatch h), .inl rfl⟩
  | y :: ys, x => by
    obtain ⟨h1, h2, h3⟩ := foldl_max_ge ys (max x y)
    simp only [List.foldl_cons]
    refine ⟨by omega, fun z hz => ?_, ?_⟩
    · rcases List.mem_cons.mp hz with rfl | hz
      · omega
      · exact h2 z hz
    · rcases h3 with h3 | h3
      · rw [h3]
        by_cases h : x ≤ y
        · right; rw [show max x y = y by omega]; exact List.mem_cons_self
        · left; omega
      · right; exact List.mem_cons_of_mem _ h3
theorem foldl_min_le : ∀ (xs : List Int) (x : Int), xs.foldl min x ≤ x ∧ (∀ y ∈ xs, xs.foldl min x ≤ y) ∧ (xs.foldl min x = x ∨ xs.foldl min x ∈ xs)
  | [], x => ⟨Int.le_refl _, fun _ h => (nomatch h), .inl rfl⟩
  | y :: ys, x => by
    obtain ⟨h1, h2, h3⟩ := foldl_min_le ys (min x y)
    simp only [List.foldl_cons]
    refine ⟨by omega, fun z hz => ?_, ?_⟩
    · rcases List.mem_cons.mp hz with rfl | hz
      · omega
      · exact h2 z hz
    · rcases h3 with h3 | h3
      · rw [h3]
        by_cases h : y ≤ x
        · right; rw [show min x y = y by omega]; exact List.mem_cons_self
        · left; omega
      · right; exact List.mem_cons_of_mem _ h3
def maxLF (x : D) : Option D := (((lrOf x).bind asI).bind fun (bs : List Int) => if 0 < bs.length then some (.int (maxI bs)) else none)
def minLF (x : D) : Option D := (((lrOf x).bind asI).bind fun (bs : List Int) => if 0 < bs.length then some (.int (minI bs)) else none)
theorem prim_maxL : PrimC c (rMax c.K) (one maxLF) := primC1 fun H0 F H env σ x v d Q g hx e k => by
  obtain ⟨bs, e1, e3⟩ := Option.bind_eq_some_iff.mp e
  obtain ⟨a, xs, l, rfl, q, r, e2⟩ := lr_rp e1 hx
  obtain rfl := asI_eq e2 r
  split at e3
  · cases e3
    refine ⟨a, bs, rfl, g.le.seq q, by assumption, fun m hm hy => ?_⟩
    have : m = maxI bs := by
      cases bs with
      | nil => cases hm
      | cons b bs =>
        obtain ⟨h1, h2, h3⟩ := foldl_max_ge bs b
        show m = bs.foldl max b
        have a1 : bs.foldl max b ≤ m := hy _ (h3.elim (fun z => by rw [z]; exact List.mem_cons_self) fun z => List.mem_cons_of_mem _ z)
        rcases List.mem_cons.mp hm with rfl | hm
        · omega
        · have := h2 m hm; omega
    subst this
    exact k F H (Step.refl g) _ (by simp only [Rp])
  · cases e3
theorem prim_minL : PrimC c (rMin c.K) (one minLF) := primC1 fun H0 F H env σ x v d Q g hx e k => by
  obtain ⟨bs, e1, e3⟩ := Option.bind_eq_some_iff.mp e
  obtain ⟨a, xs, l, rfl, q, r, e2⟩ := lr_rp e1 hx
  obtain rfl := asI_eq e2 r
  split at e3
  · cases e3
    refine ⟨a, bs, rfl, g.le.seq q, by assumption, fun m hm hy => ?_⟩
    have : m = minI bs := by
      cases bs with
      | nil => cases hm
      | cons b bs =>
        obtain ⟨h1, h2, h3⟩ := foldl_min_le bs b
        show m = bs.foldl min b
        have a1 : m ≤ bs.foldl min b := hy _ (h3.elim (fun z => by rw [z]; exact List.mem_cons_self) fun z => List.mem_cons_of_mem _ z)
        rcases List.mem_cons.mp hm with rfl | hm
        · omega
        · have := h2 m hm; omega
    subst this
    exact k F H (Step.refl g) _ (by simp only [Rp])
  · cases e3
def absF : D → Option D
  | .int i => some (.int (if i < 0 then -i else i))
  | _ => none
theorem prim_abs : PrimC c (fun xs H Q => ∃ i, xs = [.int i] ∧ Q (.int (if i < 0 then -i else i)) H) (one absF) := primC1 fun H0 F H env σ x v d Q g hx e k => by
  unfold absF at e
  split at e
  · cases e
    simp only [Rp] at hx
    subst hx
    exact ⟨_, rfl, k F H (Step.refl g) _ (by simp only [Rp])⟩
  · cases e
def int1F : D → Option D
  | .int i => some (.int i)
  | .bl b => some (.int (if b then 1 else 0))
  | _ => none
theorem prim_int1 : PrimC c (fun xs H Q => (∃ i, xs = [.int i] ∧ Q (.int i) H) ∨ ∃ k, xs = [.bl k] ∧ Q (.int (if k then 1 else 0)) H) (one int1F) := primC1 fun H0 F H env σ x v d Q g hx e k => by
  unfold int1F at e
  split at e
  · cases e
    simp only [Rp] at hx
    subst hx
    exact .inl ⟨_, rfl, k F H (Step.refl g) _ (by simp only [Rp])⟩
  · cases e
    simp only [Rp] at hx
    subst hx
    exact .inr ⟨_, rfl, k F H (Step.refl g) _ (by simp only [Rp])⟩
  · cases e
/-- list(xs): a new list -/
def listF (ra : Env → Out (List D)) (e : Env) : Out (List D) := (ra e).bind fun ds e1 => match ds with
  | [x] => (match seqOf x with | some l => .ok l e1 | none => .no)
  | _ => .no
theorem dl_list {e : Expr} {ra : Env → Out (List D)} (h : PE X e (tCB (fun xs H Q => ∃ p ys, xs = [.ref p] ∧ (SqL c.K H p ys ∨ SqT c.K H p ys) ∧ ∀ l, H l = none → Q (.ref l) (upd H l (.lst ys))) (tA c W ra))) : PE X e (tF c W (listF ra)) := h.imp fun σ H Q ⟨H0, F, env, g, q⟩ =>
  ⟨H0, F, env, g, q.seq fun ds e1 F1 H1 s1 q1 vs hv => by
    split at q1
    · rename_i x
      split at q1
      · rename_i l el
        simp only [RpL] at hv
        obtain ⟨v, w, rfl, r1, rfl⟩ := hv
        obtain ⟨a, xs, rfl, q2, r⟩ := seqOf_rp el r1
        refine ⟨a, xs, rfl, sq_mono s1.good.le q2, fun p hp => ?_⟩
        obtain ⟨g2, ap⟩ := s1.good.lay (o := .lst xs) hp
        exact q1 F1 _ ⟨Same.refl _, EnvLe.refl _, g2, fun _ _ _ e => e⟩ _ ⟨p, _, rfl, ap, r⟩
      · exact q1.elim
    · exact q1.elim⟩
end
end DL

/-! ==== DL4 -/
/-! DL4: targets, walks, comprehensions -/
namespace DL
open PySem L2
section
variable {c : Kc} {W : WX} {X : Cx} {H0 F F' H H' : Hp} {env env' : Env} {σ : L2.St} {Q : VK}

/-! ### targets -/
/-- d is given to the names of a target; sl: their slots -/
def tG (c : Kc) (sl : List Nat) (r : D → Env → Option Env) : TG := fun v σ H Q => ∃ H0 F env d, c.Good H0 F env σ H ∧ Rp c.K c.cm F d v ∧ match r d env with
  | none => False
  | some env' => ∀ σ', σ'.length = σ.length → c.Good H0 F env' σ' H → (∀ j, j ∉ sl → σ'[j]? = σ[j]? ∧ env'[j]? = env[j]?) → Q σ' H
def setD (i : Nat) (d : D) (e : Env) : Option Env := match e[i]? with
  | some (.bor _) => none
  | some _ => some (e.set i (.dat d))
  | none => none
theorem _root_.L2.PG.imp {X : Cx} {e : Expr} {t t' : TG} (h : PG X e t) (i : ∀ v σ H Q, t' v σ H Q → t v σ H Q) : PG X e t' := ⟨fun pins s σ H v u Q I r q => h.run pins s σ H v u Q I r (i v σ H Q q)⟩
theorem setD_good {i : Nat} {d : D} {e : Env} {v : V} (g : c.Good H0 F env σ H) (h : setD i d env = some e) (r : Rp c.K c.cm F d v) : c.Good H0 F e (σ.set i (some v)) H ∧ ∀ j, j ≠ i → (σ.set i (some v))[j]? = σ[j]? ∧ e[j]? = env[j]? := by
  unfold setD at h
  split at h
  · cases h
  · rename_i sv hs h1
    cases h
    refine ⟨g.set (fun t e1 => ?_) r, fun j hj => ⟨List.getElem?_set_ne (Ne.symm hj), List.getElem?_set_ne (Ne.symm hj)⟩⟩
    rw [h1] at e1; cases e1
    cases sv with
    | bor ov => exact absurd rfl (hs ov)
    | _ => rfl
  · cases h
theorem tgn_read {i : Nat} {v : V} {σ : L2.St} {H : Hp} {Q : L2.St → Hp → Prop} (h : tG c [i] (setD i) v σ H Q) : gName i v σ H Q := by
  obtain ⟨H0, F, env, d, g, r, q⟩ := h
  split at q
  · exact q.elim
  · rename_i env' e
    obtain ⟨g2, k⟩ := setD_good g e r
    exact q _ (by simp) g2 fun j hj => k j (by simpa using hj)
theorem dl_tgName {i : Nat} {e : Expr} (h : PG X e (gName i)) : PG X e (tG c [i] (setD i)) := h.imp fun v σ H Q q => tgn_read q
/-- the parts of a tuple, one name each -/
def tGs (c : Kc) (sl : List Nat) (r : List D → Env → Option Env) : TGs := fun vs σ H Q => ∃ H0 F env ds, c.Good H0 F env σ H ∧ RpL c.K c.cm F ds vs ∧ match r ds env with
  | none => False
  | some env' => ∀ σ', σ'.length = σ.length → c.Good H0 F env' σ' H → (∀ j, j ∉ sl → σ'[j]? = σ[j]? ∧ env'[j]? = env[j]?) → Q σ' H
theorem _root_.L2.PGs.imp {X : Cx} {e : List Expr} {t t' : TGs} (h : PGs X e t) (i : ∀ v σ H Q, t' v σ H Q → t v σ H Q) : PGs X e t' := ⟨fun pins s σ H v u Q I r q => h.run pins s σ H v u Q I r (i v σ H Q q)⟩
def setNil (ds : List D) (e : Env) : Option Env := match ds with
  | [] => some e
  | _ => none
def setCons (r1 : D → Env → Option Env) (r2 : List D → Env → Option Env) (ds : List D) (e : Env) : Option Env := match ds with
  | [] => none
  | d :: ds => (r1 d e).bind (r2 ds)
theorem dl_tgNil (h : PGs X [] gNil) : PGs X [] (tGs c [] setNil) := h.imp fun vs σ H Q ⟨H0, F, env, ds, g, r, q⟩ => by
  unfold setNil at q
  cases ds with
  | nil =>
    simp only [RpL] at r
    exact ⟨r, q σ rfl g fun _ _ => ⟨rfl, rfl⟩⟩
  | cons d ds => exact q.elim
theorem dl_tgCons {e : Expr} {es : List Expr} {s1 s2 : List Nat} {r1 : D → Env → Option Env} {r2 : List D → Env → Option Env} (h : PGs X (e :: es) (gCons (tG c s1 r1) (tGs c s2 r2))) : PGs X (e :: es) (tGs c (s1 ++ s2) (setCons r1 r2)) := h.imp fun vs σ H Q ⟨H0, F, env, ds, g, r, q⟩ => by
  cases ds with
  | nil => exact q.elim
  | cons d ds =>
    simp only [RpL] at r
    obtain ⟨v, w, rfl, ra, rb⟩ := r
    refine ⟨v, w, rfl, H0, F, env, d, g, ra, ?_⟩
    simp only [setCons] at q
    cases e1 : r1 d env with
    | none => rw [e1] at q; exact q.elim
    | some env1 =>
      rw [e1] at q
      refine fun σ1 hl g1 k1 => ⟨H0, F, env1, ds, g1, rb, ?_⟩
      have e2 : (some env1).bind (r2 ds) = r2 ds env1 := rfl
      rw [e2] at q
      cases e3 : r2 ds env1 with
      | none => rw [e3] at q; exact q.elim
      | some env2 =>
        rw [e3] at q
        exact fun σ2 hl2 g2 k2 => q σ2 (hl2.trans hl) g2 fun j hj => by
          rw [List.mem_append, not_or] at hj
          exact ⟨(k2 j hj.2).1.trans (k1 j hj.1).1, (k2 j hj.2).2.trans (k1 j hj.1).2⟩
def setTup (n : Nat) (r : List D → Env → Option Env) (d : D) (e : Env) : Option Env := match d with
  | .tup l => if l.length = n then r l e else none
  | _ => none
def setUnl (n : Nat) (r : List D → Env → Option Env) (d : D) (e : Env) : Option Env := match d with
  | .lst l => if l.length = n then r l e else none
  | .ro l => if l.length = n then r l e else none
  | _ => none
theorem dl_tgTup {e : Expr} {n : Nat} {sl : List Nat} {r : List D → Env → Option Env} (h : PG X e (gTup c.K n (tGs c sl r))) : PG X e (tG c sl (setTup n r)) := h.imp fun v σ H Q ⟨H0, F, env, d, g, rp, q⟩ => by
  unfold setTup at q
  cases d with
  | tup l =>
    dsimp only at q
    split at q
    · exact q.elim
    · rename_i env' e1
      split at e1
      · simp only [Rp] at rp
        obtain ⟨a, xs, rfl, h1, r1⟩ := rp
        refine ⟨a, xs, rfl, same_T g.le h1, by rw [r1.len]; assumption, H0, F, env, l, g, r1, ?_⟩
        rw [e1]
        exact q
      · cases e1
  | _ => exact q.elim
theorem dl_tgUnl {e : Expr} {n : Nat} {sl : List Nat} {r : List D → Env → Option Env} (h : PG X e (gUnl c.K n (tGs c sl r))) : PG X e (tG c sl (setUnl n r)) := h.imp fun v σ H Q ⟨H0, F, env, d, g, rp, q⟩ => by
  have fin : ∀ {a : Addr} {xs : List V} {l : List D}, SqL c.K F a xs → RpL c.K c.cm F l xs → (match (if l.length = n then r l env else none) with
    | none => False
    | some env' => ∀ σ', σ'.length = σ.length → c.Good H0 F env' σ' H → (∀ j, j ∉ sl → σ'[j]? = σ[j]? ∧ env'[j]? = env[j]?) → Q σ' H) → gUnl c.K n (tGs c sl r) (.ref a) σ H Q := fun {a xs l} h1 r1 q => by
    split at q
    · exact q.elim
    · rename_i env' e1
      split at e1
      · refine ⟨a, xs, rfl, g.le.seq h1, by rw [r1.len]; assumption, H0, F, env, l, g, r1, ?_⟩
        rw [e1]
        exact q
      · cases e1
  unfold setUnl at q
  cases d with
  | lst l =>
    simp only [Rp] at rp
    obtain ⟨a, xs, rfl, h1, r1⟩ := rp
    exact fin (SqL.of h1) r1 q
  | ro l =>
    simp only [Rp] at rp
    obtain ⟨a, xs, rfl, h1, r1⟩ := rp
    exact fin h1 r1 q
  | _ => exact q.elim

/-! ### walks -/
/-- what a walk gives at a turn -/
def YD (c : Kc) (F : Hp) (ds : List D) (i : Nat) (H : Hp) (x : V) (H' : Hp) : Prop := ∃ d, ds[i]? = some d ∧
  ((H' = H ∧ Rp c.K c.cm F d x) ∨ ∃ p xs l, d = .tup l ∧ x = .ref p ∧ H p = none ∧ H' = upd H p (.tup xs) ∧ RpL c.K c.cm F l xs)
theorem YD.step {F1 : Hp} {ds : List D} {i : Nat} {x : V} (g : c.Good H0 F env σ H) (s : Same F1 F) (y : YD c F1 ds i H x H') : ∃ F' d, ds[i]? = some d ∧ Step c H0 F env σ F' env H' ∧ Rp c.K c.cm F' d x := by
  obtain ⟨d, e, ⟨rfl, r⟩ | ⟨p, xs, l, rfl, rfl, hp, rfl, r⟩⟩ := y
  · exact ⟨F, d, e, Step.refl g, Rp.mono s _ _ r⟩
  · have st := g.alloc (o := .tup xs) hp
    refine ⟨_, _, e, st, ?_⟩
    simp only [Rp]
    exact ⟨p, xs, rfl, SqT.of upd_same, RpL.mono (s.trans st.same) _ _ r⟩
def kI (c : Kc) (R : It → Hp → Prop) : List D → Env → Hp → Hp → Prop := fun ds _ F' H' => ∀ J G, Walk J ds.length G (YD c F' ds) → (∀ F2 H2, Same F' F2 → Same F2 H2 → G H2) → R J H'
def tI (c : Kc) (W : WX) (r : Env → Out (List D)) : TI := fun σ H R => ∃ H0 F env, c.Good H0 F env σ H ∧ Res c W H0 F env σ (r env) (kI c R)
theorem _root_.L2.PI.imp {X : Cx} {tg e : Expr} {t t' : TI} (h : PI X tg e t) (i : ∀ σ H Q, t' σ H Q → t σ H Q) : PI X tg e t' := ⟨fun pins s σ H Q I q => h.run pins s σ H Q I (i σ H Q q)⟩
/-- what is walked as a list, a tuple, a text -/
def itL (ra : Env → Out D) (e : Env) : Out (List D) := (ra e).bind fun x e1 => match x with
  | .lst l => .ok l e1
  | .ro l => .ok l e1
  | _ => .no
def itT (ra : Env → Out D) (e : Env) : Out (List D) := (ra e).bind fun x e1 => match x with
  | .tup l => .ok l e1
  | _ => .no
def signs (s : Str) : List D := s.cps.toList.map fun k => .str ⟨#[k]⟩
def itS (ra : Env → Out D) (e : Env) : Out (List D) := (ra e).bind fun x e1 => match x with
  | .str s => .ok (signs s) e1
  | _ => .no
theorem walk_listD {a : Addr} {xs : List V} {l : List D} (r : RpL c.K c.cm F l xs) : Walk (Itl c.K a) l.length (fun H => SqL c.K H a xs) (YD c F l) := by
  rw [← r.len]
  refine walk_list.mono (fun _ z => z) fun i H x H' _ _ y => ?_
  obtain ⟨d, e, r2⟩ := r.get' y.2
  exact ⟨d, e, .inl ⟨y.1, r2⟩⟩
theorem walk_tupD {a : Addr} {xs : List V} {l : List D} (r : RpL c.K c.cm F l xs) : Walk (Itt c.K a) l.length (fun H => SqT c.K H a xs) (YD c F l) := by
  rw [← r.len]
  refine walk_tup.mono (fun _ z => z) fun i H x H' _ _ y => ?_
  obtain ⟨d, e, r2⟩ := r.get' y.2
  exact ⟨d, e, .inl ⟨y.1, r2⟩⟩
theorem dl_itL {tg e : Expr} {ra : Env → Out D} (h : PI X tg e (iList c.K (tD c W ra))) : PI X tg e (tI c W (itL ra)) := h.imp fun σ H R ⟨H0, F, env, g, q⟩ => by
  refine ⟨H0, F, env, g, q.seq fun x e1 F1 H1 s1 q1 v hv => ?_⟩
  have fin : ∀ {a : Addr} {xs : List V} {l : List D}, SqL c.K F1 a xs → RpL c.K c.cm F1 l xs → Res c W H0 F1 e1 σ (.ok l e1) (kI c R) → ∃ a', V.ref a = .ref a' ∧ (∃ xs, SqL c.K H1 a' xs) ∧ R (Itl c.K a') H1 := fun {a xs l} h1 r q1 =>
    ⟨a, rfl, ⟨xs, s1.good.le.seq h1⟩, q1.ret s1.good _ _ (walk_listD r) fun F2 H2 s2 s3 => s3.seq (s2.seq h1)⟩
  split at q1
  · simp only [Rp] at hv
    obtain ⟨a, xs, rfl, h1, r⟩ := hv
    exact fin (SqL.of h1) r q1
  · simp only [Rp] at hv
    obtain ⟨a, xs, rfl, h1, r⟩ := hv
    exact fin h1 r q1
  · exact q1.elim
theorem dl_itT {tg e : Expr} {ra : Env → Out D} (h : PI X tg e (iTup c.K (tD c W ra))) : PI X tg e (tI c W (itT ra)) := h.imp fun σ H R ⟨H0, F, env, g, q⟩ => by
  refine ⟨H0, F, env, g, q.seq fun x e1 F1 H1 s1 q1 v hv => ?_⟩
  split at q1
  · simp only [Rp] at hv
    obtain ⟨a, xs, rfl, h1, r⟩ := hv
    exact ⟨a, rfl, ⟨xs, same_T s1.good.le h1⟩, q1.ret s1.good _ _ (walk_tupD r) fun F2 H2 s2 s3 => same_T s3 (same_T s2 h1)⟩
  · exact q1.elim
theorem dl_itS {tg e : Expr} {ra : Env → Out D} (h : PI X tg e (iStr (tD c W ra))) : PI X tg e (tI c W (itS ra)) := h.imp fun σ H R ⟨H0, F, env, g, q⟩ => by
  refine ⟨H0, F, env, g, q.seq fun x e1 F1 H1 s1 q1 v hv => ?_⟩
  split at q1
  · rename_i s
    simp only [Rp] at hv
    have hl : (signs s).length = s.cps.size := by simp [signs]
    refine ⟨s, hv, q1.ret s1.good _ _ ((walk_str (z := s)).mono (n := s.cps.size) (fun _ z => z) (fun i H x H' _ _ y => ?_) |> fun w => by rw [hl]; exact w) fun F2 H2 s2 s3 => trivial⟩
    obtain ⟨e, k, e2, rfl⟩ := y
    refine ⟨.str ⟨#[k]⟩, ?_, .inl ⟨e, by simp [Rp]⟩⟩
    simp [signs, e2]
  · exact q1.elim
/-- range(n), range(a, b) -/
def rgL (a : Int) (n : Nat) : List D := (List.range n).map fun (i : Nat) => .int (a + i)
def okR (i : Int) : Bool := decide (-4611686018427387904 ≤ i ∧ i < 4611686018427387904)
theorem okR_iff {i : Int} (h : okR i = true) : -(2 ^ 62) ≤ i ∧ i < 2 ^ 62 := by have := of_decide_eq_true h; simpa using this
def itR1 (ra : Env → Out (List D)) (e : Env) : Out (List D) := (ra e).bind fun ds e1 => match ds with
  | [.int j] => if okR j = true then .ok (rgL 0 j.toNat) e1 else .no
  | _ => .no
def itR2 (ra : Env → Out (List D)) (e : Env) : Out (List D) := (ra e).bind fun ds e1 => match ds with
  | [.int i, .int j] => if (okR i && okR j) = true then .ok (rgL i (j - i).toNat) e1 else .no
  | _ => .no
theorem walk_rgL {lo : Int} {n : Nat} {F : Hp} : Walk (Itr lo n) (rgL lo n).length (fun _ => True) (YD c F (rgL lo n)) := by
  have hl : (rgL lo n).length = n := by simp [rgL]
  rw [hl]
  refine (walk_range (lo := lo) (n := n)).mono (fun _ z => z) fun i H x H' hi _ y => ?_
  obtain ⟨e, rfl⟩ := y
  exact ⟨.int (lo + i), by simp [rgL, hi], .inl ⟨e, by simp [Rp]⟩⟩
theorem dl_itR1 {tg e : Expr} {ra : Env → Out (List D)} (h : PI X tg e (iRng1 (tA c W ra))) : PI X tg e (tI c W (itR1 ra)) := h.imp fun σ H R ⟨H0, F, env, g, q⟩ => by
  refine ⟨H0, F, env, g, q.seq fun ds e1 F1 H1 s1 q1 vs hv => ?_⟩
  split at q1
  · split at q1
    · rename_i j hj
      simp only [RpL, Rp] at hv
      obtain ⟨v, w, rfl, rfl, rfl⟩ := hv
      exact ⟨j, rfl, (okR_iff hj).1, (okR_iff hj).2, q1.ret s1.good _ _ walk_rgL fun _ _ _ _ => trivial⟩
    · exact q1.elim
  · exact q1.elim
theorem dl_itR2 {tg e : Expr} {ra : Env → Out (List D)} (h : PI X tg e (iRng2 (tA c W ra))) : PI X tg e (tI c W (itR2 ra)) := h.imp fun σ H R ⟨H0, F, env, g, q⟩ => by
  refine ⟨H0, F, env, g, q.seq fun ds e1 F1 H1 s1 q1 vs hv => ?_⟩
  split at q1
  · split at q1
    · rename_i i j hj
      simp only [Bool.and_eq_true] at hj
      simp only [RpL, Rp] at hv
      obtain ⟨v, w, rfl, rfl, v2, w2, rfl, rfl, rfl⟩ := hv
      exact ⟨i, j, rfl, ⟨(okR_iff hj.1).1, (okR_iff hj.1).2, (okR_iff hj.2).1, (okR_iff hj.2).2⟩, q1.ret s1.good _ _ walk_rgL fun _ _ _ _ => trivial⟩
    · exact q1.elim
  · exact q1.elim
/-- enumerate(list) -/
def enL (l : List D) : List D := l.zipIdx.map fun (d, i) => .tup [.int (i : Nat), d]
def itE (ra : Env → Out (List D)) (e : Env) : Out (List D) := (ra e).bind fun ds e1 => match ds with
  | [.lst l] => .ok (enL l) e1
  | [.ro l] => .ok (enL l) e1
  | _ => .no
theorem enL_get {l : List D} {i : Nat} {d : D} (h : l[i]? = some d) : (enL l)[i]? = some (.tup [.int (i : Nat), d]) := by
  simp [enL, h]
theorem enL_len (l : List D) : (enL l).length = l.length := by simp [enL]
theorem walk_enumD {a : Addr} {xs : List V} {l : List D} (r : RpL c.K c.cm F l xs) : Walk (Ite c.K a) (enL l).length (fun H => SqL c.K H a xs) (YD c F (enL l)) := by
  rw [enL_len, ← r.len]
  refine walk_enum.mono (fun _ z => z) fun i H x H' _ _ y => ?_
  obtain ⟨T, u, w, rfl, hT, rfl, e1, e2⟩ := y
  cases e1
  obtain ⟨d, e, r2⟩ := r.get' e2
  exact ⟨_, enL_get e, .inr ⟨T, _, _, rfl, rfl, hT, rfl, RpL.cons (by simp [Rp]) (RpL.cons r2 RpL.nil)⟩⟩
theorem dl_itE {tg e : Expr} {ra : Env → Out (List D)} (h : PI X tg e (iEnum c.K (tA c W ra))) : PI X tg e (tI c W (itE ra)) := h.imp fun σ H R ⟨H0, F, env, g, q⟩ => by
  refine ⟨H0, F, env, g, q.seq fun ds e1 F1 H1 s1 q1 vs hv => ?_⟩
  have fin : ∀ {a : Addr} {xs : List V} {l : List D}, SqL c.K F1 a xs → RpL c.K c.cm F1 l xs → Res c W H0 F1 e1 σ (.ok (enL l) e1) (kI c R) → ∃ a' xs, [V.ref a] = [.ref a'] ∧ SqL c.K H1 a' xs ∧ R (Ite c.K a') H1 := fun {a xs l} h1 r q1 =>
    ⟨a, xs, rfl, s1.good.le.seq h1, q1.ret s1.good _ _ (walk_enumD r) fun F2 H2 s2 s3 => s3.seq (s2.seq h1)⟩
  split at q1
  · simp only [RpL, Rp] at hv
    obtain ⟨v, w, rfl, ⟨a, xs, rfl, h1, r⟩, rfl⟩ := hv
    exact fin (SqL.of h1) r q1
  · simp only [RpL, Rp] at hv
    obtain ⟨v, w, rfl, ⟨a, xs, rfl, h1, r⟩, rfl⟩ := hv
    exact fin h1 r q1
  · exact q1.elim
/-- zip of two lists, of two tuples -/
def zipL (l m : List D) : List D := (l.zip m).map fun (a, b) => .tup [a, b]
def itZ (ra : Env → Out (List D)) (e : Env) : Out (List D) := (ra e).bind fun ds e1 => match ds with
  | [.lst l, .lst m] => .ok (zipL l m) e1
  | _ => .no
theorem zipL_get {l m : List D} {i : Nat} {d b : D} (h : l[i]? = some d) (h2 : m[i]? = some b) : (zipL l m)[i]? = some (.tup [d, b]) := by
  have : (l.zip m)[i]? = some (d, b) := by rw [List.getElem?_zip_eq_some]; exact ⟨h, h2⟩
  simp only [zipL, List.getElem?_map, this]
  rfl
theorem dl_itZ {tg e : Expr} {ra : Env → Out (List D)} (h : PI X tg e (iZip c.K (tA c W ra))) : PI X tg e (tI c W (itZ ra)) := h.imp fun σ H R ⟨H0, F, env, g, q⟩ => by
  refine ⟨H0, F, env, g, q.seq fun ds e1 F1 H1 s1 q1 vs hv => ?_⟩
  split at q1
  · rename_i l m
    simp only [RpL, Rp] at hv
    obtain ⟨v, w, rfl, ⟨a, xs, rfl, h1, r⟩, v2, w2, rfl, ⟨b, ys, rfl, h2, r2⟩, rfl⟩ := hv
    refine ⟨a, b, xs, ys, rfl, s1.good.le.seq (SqL.of h1), s1.good.le.seq (SqL.of h2), q1.ret s1.good _ _ ((walk_zip (K := c.K) (a := a) (b := b) (xs := xs) (ys := ys) (n := (zipL l m).length) (by simp [zipL, r.len, r2.len])).mono (fun _ z => z) (fun i H x H' _ _ y => ?_)) fun F2 H2 s2 s3 => ⟨s3.seq (s2.seq (SqL.of h1)), s3.seq (s2.seq (SqL.of h2))⟩⟩
    obtain ⟨T, u, w, rfl, hT, rfl, e1, e2⟩ := y
    obtain ⟨d, e, r3⟩ := r.get' e1
    obtain ⟨d', e', r4⟩ := r2.get' e2
    exact ⟨_, zipL_get e e', .inr ⟨T, _, _, rfl, rfl, hT, rfl, RpL.cons r3 (RpL.cons r4 RpL.nil)⟩⟩
  · exact q1.elim
/-- reversed(list or tuple) -/
def itV (ra : Env → Out D) (e : Env) : Out (List D) := (ra e).bind fun x e1 => match seqOf x with
  | some l => .ok l.reverse e1
  | none => .no

/-! ### comprehensions -/
def wipeE (e : Env) : List Nat → Env
  | [] => e
  | v :: vs => (wipeE e vs).set v .un
/-- the comprehension's own slots are as they were -/
def backE (e0 e : Env) : List Nat → Env
  | [] => e
  | v :: vs => (backE e0 e vs).set v (e0.getD v .un)
theorem wipeE_len (e : Env) : ∀ vs, (wipeE e vs).length = e.length
  | [] => rfl
  | v :: vs => by simp [wipeE, wipeE_len e vs]
theorem backE_len (e0 e : Env) : ∀ vs, (backE e0 e vs).length = e.length
  | [] => rfl
  | v :: vs => by simp [backE, backE_len e0 e vs]
theorem wipeE_out {e : Env} {i : Nat} : ∀ {vs : List Nat}, i ∉ vs → (wipeE e vs)[i]? = e[i]?
  | [], _ => rfl
  | v :: vs, h => by
    rw [List.mem_cons, not_or] at h
    rw [wipeE, List.getElem?_set_ne (Ne.symm h.1), wipeE_out h.2]
theorem wipeE_in {e : Env} {i : Nat} : ∀ {vs : List Nat}, i ∈ vs → i < e.length → (wipeE e vs)[i]? = some .un
  | v :: vs, h, hi => by
    by_cases hv : i = v
    · subst hv; rw [wipeE, List.getElem?_set_self (by rw [wipeE_len]; exact hi)]
    · rw [wipeE, List.getElem?_set_ne (Ne.symm hv)]
      exact wipeE_in ((List.mem_cons.mp h).resolve_left hv) hi
theorem backE_out {e0 e : Env} {i : Nat} : ∀ {vs : List Nat}, i ∉ vs → (backE e0 e vs)[i]? = e[i]?
  | [], _ => rfl
  | v :: vs, h => by
    rw [List.mem_cons, not_or] at h
    rw [backE, List.getElem?_set_ne (Ne.symm h.1), backE_out h.2]
theorem backE_in {e0 e : Env} {i : Nat} : ∀ {vs : List Nat}, i ∈ vs → i < e.length → (backE e0 e vs)[i]? = some (e0.getD i .un)
  | v :: vs, h, hi => by
    by_cases hv : i = v
    · subst hv; rw [backE, List.getElem?_set_self (by rw [backE_len]; exact hi)]
    · rw [backE, List.getElem?_set_ne (Ne.symm hv)]
      exact backE_in ((List.mem_cons.mp h).resolve_left hv) hi
theorem wipe_out {σ : L2.St} {i : Nat} : ∀ {vs : List Nat}, i ∉ vs → (wipe σ vs)[i]? = σ[i]?
  | [], _ => rfl
  | v :: vs, h => by
    rw [List.mem_cons, not_or] at h
    rw [wipe, List.getElem?_set_ne (Ne.symm h.1), wipe_out h.2]
theorem wipe_in {σ : L2.St} {i : Nat} : ∀ {vs : List Nat}, i ∈ vs → i < σ.length → (wipe σ vs)[i]? = some none
  | v :: vs, h, hi => by
    by_cases hv : i = v
    · subst hv; rw [wipe, List.getElem?_set_self (by rw [wipe_length]; exact hi)]
    · rw [wipe, List.getElem?_set_ne (Ne.symm hv)]
      exact wipe_in ((List.mem_cons.mp h).resolve_left hv) hi
theorem wipe_eq {σ σ2 : L2.St} {vs : List Nat} (hl : σ2.length = σ.length) (h : ∀ j, j ∉ vs → σ2[j]? = σ[j]?) : wipe σ2 vs = wipe σ vs := by
  refine List.ext_getElem? fun i => ?_
  by_cases hv : i ∈ vs
  · by_cases hi : i < σ.length
    · rw [wipe_in hv (by omega), wipe_in hv hi]
    · rw [List.getElem?_eq_none (by rw [wipe_length]; omega), List.getElem?_eq_none (by rw [wipe_length]; omega)]
  · rw [wipe_out hv, wipe_out hv, h i hv]
theorem wipe_wipe (σ : L2.St) (vs : List Nat) : wipe (wipe σ vs) vs = wipe σ vs := wipe_eq (wipe_length _ _) fun j hj => wipe_out hj
/-- none of the slots is an own object's -/
def freeE (e : Env) (vs : List Nat) : Bool := vs.all fun v => match e[v]? with
  | some sv => !sv.isO
  | none => true
theorem freeE_at {e : Env} {vs : List Nat} (h : freeE e vs = true) {i : Nat} {sv : SV} (hi : i ∈ vs) (e1 : e[i]? = some sv) : sv.isO = false := by
  have := List.all_eq_true.mp h i hi
  rw [e1] at this
  simpa using this
theorem Good.wiped {vs : List Nat} (g : c.Good H0 F env σ H) (h : freeE env vs = true) : c.Good H0 F (wipeE env vs) (wipe σ vs) H := by
  have look : ∀ {j : Nat} {tv : SV}, (wipeE env vs)[j]? = some tv → (j ∈ vs ∧ tv = .un) ∨ (j ∉ vs ∧ env[j]? = some tv ∧ (wipe σ vs)[j]? = σ[j]?) := fun {j tv} q => by
    by_cases hv : j ∈ vs
    · have hj : j < env.length := by rw [← wipeE_len env vs]; exact (List.getElem?_eq_some_iff.mp q).1
      rw [wipeE_in hv hj] at q; cases q; exact .inl ⟨hv, rfl⟩
    · rw [wipeE_out hv] at q; exact .inr ⟨hv, q, wipe_out hv⟩
  refine ⟨g.le, by rw [wipe_length, wipeE_len]; exact g.len, fun j tv q => ?_, fun i j tv uv a n q1 q2 o1 o2 r1 => ?_, fun a u e z => g.frame a u e fun i sv e1 sb => ?_, fun i ov a q z => ?_⟩
  · rcases look q with ⟨_, rfl⟩ | ⟨_, q, e⟩
    · trivial
    · rw [e]; exact g.slot j tv q
  · rcases look q1 with ⟨_, rfl⟩ | ⟨_, q1, e1⟩
    · cases o1
    rcases look q2 with ⟨_, rfl⟩ | ⟨_, q2, e2⟩
    · cases o2
    rw [e1] at r1; rw [e2]
    exact g.sep i j tv uv a n q1 q2 o1 o2 r1
  · have hv : i ∉ vs := fun hv => by have := freeE_at h hv e1; rw [SV.isO_of_isB sb] at this; cases this
    have := z i sv (by rw [wipeE_out hv]; exact e1) sb
    rwa [wipe_out hv] at this
  · rcases look q with ⟨_, q⟩ | ⟨_, q, e⟩
    · cases q
    · rw [e] at z; exact g.fresh i ov a q z
/-- .. and back: from the wiped slots to those ahead -/
theorem Good.unwiped {vs : List Nat} {F' H' : Hp} {e : Env} (g : c.Good H0 F env σ H) (h : freeE env vs = true) (s : Step c H0 F (wipeE env vs) (wipe σ vs) F' e H') : Step c H0 F env σ F' (backE env e vs) H' := by
  have le : e.length = env.length := by rw [s.le.len, wipeE_len]
  have look : ∀ {j : Nat} {tv : SV}, (backE env e vs)[j]? = some tv → (j ∈ vs ∧ env[j]? = some tv ∧ tv.isO = false) ∨ (j ∉ vs ∧ e[j]? = some tv ∧ (wipe σ vs)[j]? = σ[j]?) := fun {j tv} q => by
    by_cases hv : j ∈ vs
    · have hj : j < e.length := by rw [← backE_len env e vs]; exact (List.getElem?_eq_some_iff.mp q).1
      rw [backE_in hv hj] at q
      have e1 : env[j]? = some (env.getD j .un) := by
        rw [List.getD_eq_getElem?_getD]
        have : j < env.length := by omega
        simp [this]
      rw [← Option.some.inj q]
      exact .inl ⟨hv, e1, freeE_at h hv e1⟩
    · rw [backE_out hv] at q; exact .inr ⟨hv, q, wipe_out hv⟩
  refine ⟨s.same, ⟨by rw [backE_len, le], fun j tv q => ?_⟩, ⟨s.good.le, by rw [backE_len, le]; exact g.len, fun j tv q => ?_, fun i j tv uv a n q1 q2 o1 o2 r1 => ?_, fun a u e z => s.good.frame a u e fun i sv e1 sb => ?_, fun i ov a q z => ?_⟩, s.old⟩
  · by_cases hv : j ∈ vs
    · have hj : j < e.length := by rw [le]; exact (List.getElem?_eq_some_iff.mp q).1
      refine ⟨tv, ?_, SvLe.refl _⟩
      rw [backE_in hv hj, List.getD_eq_getElem?_getD, q]
      rfl
    · obtain ⟨t, e1, l⟩ := s.le.at_ j tv (by rw [wipeE_out hv]; exact q)
      exact ⟨t, by rw [backE_out hv]; exact e1, l⟩
  · rcases look q with ⟨_, q, no⟩ | ⟨_, q, e2⟩
    · have := g.slot j tv q
      cases tv with
      | un => trivial
      | dat d => obtain ⟨u, h1, h2⟩ := this; exact ⟨u, h1, Rp.mono s.same _ _ h2⟩
      | own ov => cases no
      | bor ov => cases no
    · have := s.good.slot j tv q
      rwa [e2] at this
  · rcases look q1 with ⟨_, _, no⟩ | ⟨_, q1, e1⟩
    · rw [o1] at no; cases no
    rcases look q2 with ⟨_, _, no⟩ | ⟨_, q2, e2⟩
    · rw [o2] at no; cases no
    rw [← e1] at r1; rw [← e2]
    exact s.good.sep i j tv uv a n q1 q2 o1 o2 r1
  · obtain ⟨t, e2, sb2⟩ := s.le.bor e1 sb
    have hv : i ∉ vs := fun hv => by
      rw [wipeE_in hv (by have := (List.getElem?_eq_some_iff.mp e2).1; rwa [wipeE_len] at this)] at e2; cases e2; cases sb2
    have := z i sv (by rw [backE_out hv]; exact e1) sb
    rwa [wipe_out hv]
  · rcases look q with ⟨_, _, no⟩ | ⟨_, q, e2⟩
    · cases no
    · rw [← e2] at z; exact s.good.fresh i ov a q z
end
end DL

/-! ==== DL5 -/
/-! DL5: comprehensions -/
namespace DL
open PySem L2
section
variable {c : Kc} {W : WX} {X : Cx} {H0 F F' H H' : Hp} {env env' : Env} {σ : L2.St} {Q : VK}
def noEx {α : Type} (o : Out α) : Out α := match o with
  | .ex _ _ => .no
  | o => o
def compL (vs : List Nat) (rg : D → Env → Option Env) (rt : Env → Out Bool) (re : Env → Out D) : List D → Env → Out (List D)
  | [], e => .ok [] e
  | d :: ds, e => match rg d e with
    | none => .no
    | some e2 => if freeE e2 vs = true then (noEx (rt e2)).bind fun b e3 => if b = true then (noEx (re e3)).bind fun y e4 => if freeE e4 vs = true then (compL vs rg rt re ds (wipeE e4 vs)).bind fun ys e5 => .ok (y :: ys) e5 else .no
        else if freeE e3 vs = true then compL vs rg rt re ds (wipeE e3 vs) else .no
      else .no
def compF (vs : List Nat) (ri : Env → Out (List D)) (rg : D → Env → Option Env) (rt : Env → Out Bool) (re : Env → Out D) (env : Env) : Out (List D) :=
  (ri env).bind fun ds e1 => if (freeE e1 vs && decide (ds.length ≤ sizeLine)) = true then (noEx (compL vs rg rt re ds (wipeE e1 vs))).bind fun ys e5 => .ok ys (backE e1 e5 vs) else .no

theorem Apart.moved {e2 : Env} {σ2 : L2.St} {vs : List Nat} {p : Addr} {o : HO} (a : Apart env σ H0 F H p o) (fr : freeE e2 vs = true) (k : ∀ j, j ∉ vs → σ2[j]? = σ[j]? ∧ e2[j]? = env[j]?) : Apart e2 σ2 H0 F H p o :=
  ⟨a.f, a.h, a.h0, fun i sv e so => by
    by_cases hv : i ∈ vs
    · have := freeE_at fr hv e; rw [so] at this; cases this
    · rw [(k i hv).1]; exact a.no i sv (by rw [← (k i hv).2]; exact e) so⟩
theorem wiped_self {vs : List Nat} (fr : freeE env vs = true) : ∀ j, j ∉ vs → (wipe σ vs)[j]? = σ[j]? ∧ (wipeE env vs)[j]? = env[j]? := fun j hj => ⟨wipe_out hj, wipeE_out hj⟩
theorem freeE_wipe (e : Env) (vs : List Nat) : freeE (wipeE e vs) vs = true := by
  refine List.all_eq_true.mpr fun v hv => ?_
  by_cases h : v < e.length
  · rw [wipeE_in hv h]; rfl
  · rw [List.getElem?_eq_none (by rw [wipeE_len]; omega)]
/-- the steps of a turn, from wiped slots to wiped slots -/
theorem Step.wiped {vs : List Nat} {e1 e2 e4 : Env} {σ2 : L2.St} {F2 F4 H2 H4 : Hp} (s0 : Step c H0 F (wipeE e1 vs) (wipe σ vs) F2 env H2) (he : env = wipeE env vs)
    (hσ : wipe σ2 vs = wipe σ vs) (hl : e2.length = env.length) (k : ∀ j, j ∉ vs → e2[j]? = env[j]?) (s : Step c H0 F2 e2 σ2 F4 e4 H4) (fr : freeE e4 vs = true) :
    Step c H0 F (wipeE e1 vs) (wipe σ vs) F4 (wipeE e4 vs) H4 := by
  have g := s.good.wiped fr
  rw [hσ] at g
  refine ⟨s0.same.trans s.same, ⟨by rw [wipeE_len, s.le.len, hl, s0.le.len], fun i t e => ?_⟩, g, fun a o n e => s0.old a o n (s.old a o n e)⟩
  obtain ⟨t2, h1, l1⟩ := s0.le.at_ i t e
  by_cases hv : i ∈ vs
  · have hi : i < e1.length := by rw [← wipeE_len e1 vs]; exact (List.getElem?_eq_some_iff.mp e).1
    rw [wipeE_in hv hi] at e; cases e
    refine ⟨.un, wipeE_in hv ?_, rfl⟩
    rw [s.le.len, hl, s0.le.len, wipeE_len]; exact hi
  · obtain ⟨t3, h3, l3⟩ := s.le.at_ i t2 (by rw [k i hv]; exact h1)
    exact ⟨t3, by rw [wipeE_out hv]; exact h3, l1.trans l3⟩
theorem wipeE_wipeE (e : Env) (vs : List Nat) : wipeE e vs = wipeE (wipeE e vs) vs := by
  refine List.ext_getElem? fun i => ?_
  by_cases hv : i ∈ vs
  · by_cases hi : i < e.length
    · rw [wipeE_in hv hi, wipeE_in hv (by rw [wipeE_len]; exact hi)]
    · rw [List.getElem?_eq_none (by rw [wipeE_len]; omega), List.getElem?_eq_none (by rw [wipeE_len, wipeE_len]; omega)]
  · rw [wipeE_out hv, wipeE_out hv, wipeE_out hv]

/-- THE comprehension -/
theorem comp_read {vs sl : List Nat} {ri : Env → Out (List D)} {rg : D → Env → Option Env} {rt : Env → Out Bool} {re : Env → Out D} (hsl : ∀ j, j ∈ sl → j ∈ vs) {σ : L2.St} {H : Hp} {Q : VK}
    (h : tF c W (compF vs ri rg rt re) σ H Q) : tLc (tI c W ri) (tG c sl rg) (tT c W0 rt) (tD c W0 re) vs σ H Q := by
  obtain ⟨H0, F, env, g, q⟩ := h
  refine ⟨H0, F, env, g, q.seq fun ds e1 F1 H1 s1 q1 J G w hG => ?_⟩
  intro Dl hDl
  by_cases hf : (freeE e1 vs && decide (ds.length ≤ sizeLine)) = true
  case neg => rw [if_neg hf] at q1; exact q1.elim
  rw [if_pos hf] at q1
  simp only [Bool.and_eq_true, decide_eq_true_eq] at hf
  obtain ⟨fr, hz⟩ := hf
  -- what is wanted behind the block
  have qb : Res c W0 H0 F1 (wipeE e1 vs) (wipe σ vs) (compL vs rg rt re ds (wipeE e1 vs)) fun ys e5 F' H' => kF c H0 σ Q ys (backE e1 e5 vs) F' H' := by
    cases hc : compL vs rg rt re ds (wipeE e1 vs) with
    | no => rw [hc] at q1; exact q1
    | ex x e5 => rw [hc] at q1; exact q1.elim
    | ok ys e5 =>
      rw [hc] at q1
      exact fun F' H' st => q1 F' H' (s1.good.unwiped fr st)
  have gw := s1.good.wiped fr
  obtain ⟨gl, apl⟩ := gw.lay (o := .lst []) hDl
  refine lc_it w (fun i H => ∃ F2 env2 accd xs, Step c H0 F1 (wipeE e1 vs) (wipe σ vs) F2 env2 H ∧ Apart env2 (wipe σ vs) H0 F2 H Dl (.lst xs) ∧ RpL c.K c.cm F2 accd xs ∧ env2 = wipeE env2 vs ∧ Same F2 H ∧ accd.length ≤ i ∧
      Res c W0 H0 F2 env2 (wipe σ vs) (compL vs rg rt re (ds.drop i) env2) fun ys e5 F' H' => Step c H0 F1 (wipeE e1 vs) (wipe σ vs) F' e5 H' → kF c H0 σ Q (accd ++ ys) (backE e1 e5 vs) F' H')
    ⟨F1, wipeE e1 vs, [], [], ⟨Same.refl _, EnvLe.refl _, gl, fun _ _ _ e => e⟩, apl, RpL.nil, wipeE_wipeE _ _, gl.le, Nat.le_refl _, qb.mono fun ys e5 F' H' _ k _ => k⟩
    (fun i H _ ⟨F2, env2, accd, xs, st, _, _, _, sm, _, _⟩ => hG F2 H st.same sm) ?_ ?_
  · rintro i x H2 H3 hi ⟨F2, env2, accd, xs, st, ap, ra, he2, sm, hl, qi⟩ y
    obtain ⟨F3, d, hd, s3, rd⟩ := YD.step st.good.rebased st.same y
    have ap3 := ap.after st.good s3
    have s3' := st.good.unbase s3
    have hdrop : ds.drop i = d :: ds.drop (i + 1) := by
      have hi' : i < ds.length := hi
      rw [List.drop_eq_getElem_cons hi']
      rw [List.getElem?_eq_getElem hi'] at hd
      rw [Option.some.inj hd]
    rw [hdrop] at qi
    simp only [compL] at qi
    refine ⟨H0, F3, env2, d, s3'.good, rd, ?_⟩
    split at qi
    · exact qi.elim
    · rename_i e2 hg
      try rw [hg]
      intro σ2 hl2 g2 kk
      have kv : ∀ j, j ∉ vs → σ2[j]? = (wipe σ vs)[j]? ∧ e2[j]? = env2[j]? := fun j hj => kk j fun z => hj (hsl j z)
      have hw : wipe σ2 vs = wipe σ vs := by rw [wipe_eq hl2 fun j hj => (kv j hj).1, wipe_wipe]
      have hle : e2.length = env2.length := by rw [← g2.len, hl2, s3'.good.len]
      by_cases fr2 : freeE e2 vs = true
      case neg => rw [if_neg fr2] at qi; exact qi.elim
      rw [if_pos fr2] at qi
      have ap2 := ap3.moved fr2 kv
      have g2' : c.Good H0 F3 e2 σ2 H3 := g2
      refine ⟨hw, rebase e2 σ2 H3, F3, e2, g2.rebased, ?_⟩
      cases hrt : rt e2 with
      | no => rw [hrt] at qi; exact qi.elim
      | ex x e => rw [hrt] at qi; exact qi.elim
      | ok b e3 =>
        rw [hrt] at qi
        intro F4 H4 s4
        have ap4 := ap2.after g2' s4
        have s4' := g2'.unbase s4
        have fin : ∀ {e4 : Env} {F5 H5 : Hp} (s5 : Step c H0 F3 e2 σ2 F5 e4 H5) (fr4 : freeE e4 vs = true), Step c H0 F2 env2 (wipe σ vs) F5 (wipeE e4 vs) H5 := fun {e4 F5 H5} s5 fr4 => by
          have := Step.wiped (c := c) (H0 := H0) (F := F2) (e1 := env2) (σ := σ) (vs := vs) (env := env2) (F2 := F3) (H2 := H3) (by rw [← he2]; exact s3') he2 hw hle (fun j hj => (kv j hj).2) s5 fr4
          rwa [← he2] at this
        have offσ : ∀ j, j ∉ vs → (wipe σ vs)[j]? = σ2[j]? := fun j hj => (kv j hj).1.symm
        have qi : Res c W0 H0 F2 env2 (wipe σ vs) (if b = true then (noEx (re e3)).bind fun y e4 => if freeE e4 vs = true then (compL vs rg rt re (ds.drop (i + 1)) (wipeE e4 vs)).bind fun ys e5 => .ok (y :: ys) e5 else .no
            else if freeE e3 vs = true then compL vs rg rt re (ds.drop (i + 1)) (wipeE e3 vs) else .no) _ := qi
        show if b = true then _ else _
        cases b with
        | false =>
          rw [if_neg Bool.false_ne_true] at qi ⊢
          by_cases fr3 : freeE e3 vs = true
          case neg => rw [if_neg fr3] at qi; exact qi.elim
          rw [if_pos fr3] at qi
          have s5 := fin s4' fr3
          have ap5 : Apart (wipeE e3 vs) (wipe σ vs) H0 F4 H4 Dl (.lst xs) := ap4.moved (freeE_wipe _ _) fun j hj => ⟨offσ j hj, wipeE_out hj⟩
          exact ⟨F4, wipeE e3 vs, accd, xs, st.trans s5, ap5, RpL.mono s5.same _ _ ra, wipeE_wipeE _ _, s5.good.le, by omega, Res.base s5 qi⟩
        | true =>
          rw [if_pos rfl] at qi ⊢
          refine ⟨rebase e3 σ2 H4, F4, e3, s4'.good.rebased, ?_⟩
          cases hre : re e3 with
          | no => rw [hre] at qi; exact qi.elim
          | ex x e => rw [hre] at qi; exact qi.elim
          | ok y e4 =>
            rw [hre] at qi
            intro F5 H5 s5 v hv
            have ap5 := ap4.after s4'.good s5
            have s5' := s4'.good.unbase s5
            have qi : Res c W0 H0 F2 env2 (wipe σ vs) (if freeE e4 vs = true then (compL vs rg rt re (ds.drop (i + 1)) (wipeE e4 vs)).bind fun ys e5 => .ok (y :: ys) e5 else .no) _ := qi
            by_cases fr4 : freeE e4 vs = true
            case neg => rw [if_neg fr4] at qi; exact qi.elim
            rw [if_pos fr4] at qi
            have s6 := fin (s4'.trans s5') fr4
            have ap6 : Apart (wipeE e4 vs) (wipe σ vs) H0 F5 H5 Dl (.lst xs) := ap5.moved (freeE_wipe _ _) fun j hj => ⟨offσ j hj, wipeE_out hj⟩
            obtain ⟨g7, ap7⟩ := s6.good.changeApart (o' := .lst (xs ++ [v])) ap6
            have s7 : Step c H0 F2 env2 (wipe σ vs) F5 (wipeE e4 vs) (upd H5 Dl (.lst (xs ++ [v]))) := ⟨s6.same, s6.le, g7, s6.old⟩
            refine ⟨xs, ap6.h, ?_, F5, wipeE e4 vs, accd ++ [y], xs ++ [v], st.trans s7, ap7, (RpL.mono s6.same _ _ ra).append (RpL.cons hv RpL.nil), wipeE_wipeE _ _, g7.le, by simp; omega, ?_⟩
            · rw [ra.len]
              have : i < ds.length := hi
              omega
            · refine Res.base s7 (qi.bind.mono fun ys e5 F' H' s8 k s9 => ?_)
              have := k F' H' (Step.refl s8.good) s9
              rwa [List.append_assoc, List.singleton_append]
  · rintro H2 ⟨F2, env2, accd, xs, st, ap, ra, he2, sm, hl, qi⟩
    have hdrop : ds.drop ds.length = [] := List.drop_length
    rw [hdrop] at qi
    have := qi.ret st.good st
    rw [List.append_nil] at this
    refine this _ ⟨Dl, xs, rfl, ?_, ra⟩
    refine ⟨ap.f, ap.h, ap.h0, fun i sv e so => ?_⟩
    by_cases hv : i ∈ vs
    · have hi : i < env2.length := by rw [← backE_len e1 env2 vs]; exact (List.getElem?_eq_some_iff.mp e).1
      rw [backE_in hv hi] at e
      have hi1 : i < e1.length := by rw [← wipeE_len e1 vs, ← st.le.len]; exact hi
      have e1' : e1[i]? = some (e1.getD i .un) := by rw [List.getD_eq_getElem?_getD]; simp [hi1]
      rw [Option.some.inj e] at e1'
      have := freeE_at fr hv e1'
      rw [so] at this; cases this
    · rw [backE_out hv] at e
      rw [← wipe_out hv]
      exact ap.no i sv e so
theorem dl_comp {e : Expr} {vs sl : List Nat} {ri : Env → Out (List D)} {rg : D → Env → Option Env} {rt : Env → Out Bool} {re : Env → Out D} (hsl : ∀ j, j ∈ sl → j ∈ vs)
    (h : PE X e (tLc (tI c W ri) (tG c sl rg) (tT c W0 rt) (tD c W0 re) vs)) : PE X e (tF c W (compF vs ri rg rt re)) := h.imp fun σ H Q q => comp_read hsl q
end
end DL

/-! ==== DL6 -/
/-! DL6: statements -/
namespace DL
open PySem L2
/-- how a statement ends -/
inductive Fl where
  | nx
  | rt (d : D)
  | bk
  | ct
structure StepS (c : Kc) (H0 F : Hp) (env : Env) (σ : L2.St) (F' : Hp) (env' : Env) (σ' : L2.St) (H' : Hp) : Prop where
  same : Same F F'
  good : c.Good H0 F' env' σ' H'
  old : ∀ a o, H0 a ≠ none → F' a = some o → F a = some o
  len : env'.length = env.length
  bor : ∀ (i : Nat) o, env[i]? = some (.bor o) → (∃ o', env'[i]? = some (.bor o')) ∧ σ'[i]? = σ[i]?
  rob : ∀ (i : Nat) o, env'[i]? = some (.bor o) → ∃ o', env[i]? = some (.bor o')
section
variable {c : Kc} {W : WX} {X : Cx} {H0 F F' H H' : Hp} {env env' : Env} {σ σ' : L2.St} {Q : VK} {α : Type}
theorem StepS.refl (g : c.Good H0 F env σ H) : StepS c H0 F env σ F env σ H := ⟨Same.refl _, g, fun _ _ _ e => e, rfl, fun i o e => ⟨⟨o, e⟩, rfl⟩, fun i o e => ⟨o, e⟩⟩
theorem StepS.trans {F2 H2 : Hp} {env2 : Env} {σ2 : L2.St} (s : StepS c H0 F env σ F' env' σ' H') (t : StepS c H0 F' env' σ' F2 env2 σ2 H2) : StepS c H0 F env σ F2 env2 σ2 H2 :=
  ⟨s.same.trans t.same, t.good, fun a o n e => s.old a o n (t.old a o n e), t.len.trans s.len, fun i o e => by
    obtain ⟨⟨o1, e1⟩, q1⟩ := s.bor i o e
    obtain ⟨x, q2⟩ := t.bor i o1 e1
    exact ⟨x, q2.trans q1⟩, fun i o e => by
    obtain ⟨o1, e1⟩ := t.rob i o e
    exact s.rob i o1 e1⟩
theorem Step.toS (s : Step c H0 F env σ F' env' H') : StepS c H0 F env σ F' env' σ H' :=
  ⟨s.same, s.good, s.old, s.le.len, fun i o e => by
    obtain ⟨t, e1, l⟩ := s.le.at_ i _ e
    obtain ⟨o', rfl⟩ := l
    exact ⟨⟨o', e1⟩, rfl⟩, fun i o e => by
    obtain ⟨t, e1, tb⟩ := s.le.bor e rfl
    cases t with
    | bor o' => exact ⟨o', e1⟩
    | _ => cases tb⟩
def RS (c : Kc) (W : WX) (H0 F : Hp) (env : Env) (σ : L2.St) (o : Out Fl) (k : Fl → Env → L2.St → Hp → Hp → Prop) : Prop := match o with
  | .no => False
  | .ok fl e => ∀ σ' F' H', StepS c H0 F env σ F' e σ' H' → k fl e σ' F' H'
  | .ex x e => ∀ σ' F' H' cl dx, StepS c H0 F env σ F' e σ' H' → XRep c F' H' x cl dx → W σ' cl dx H'
theorem RS.base {o : Out Fl} {k : Fl → Env → L2.St → Hp → Hp → Prop} (s : StepS c H0 F env σ F' env' σ' H') (h : RS c W H0 F env σ o k) : RS c W H0 F' env' σ' o k := by
  cases o with
  | no => exact h
  | ok a e => exact fun σ2 F2 H2 st => h σ2 F2 H2 (s.trans st)
  | ex x e => exact fun σ2 F2 H2 cl dx st => h σ2 F2 H2 cl dx (s.trans st)
theorem RS.mono {o : Out Fl} {k k' : Fl → Env → L2.St → Hp → Hp → Prop} (h : RS c W H0 F env σ o k) (f : ∀ a e σ' F' H', StepS c H0 F env σ F' e σ' H' → k a e σ' F' H' → k' a e σ' F' H') : RS c W H0 F env σ o k' := by
  cases o with
  | no => exact h
  | ok a e => exact fun σ2 F2 H2 st => f a e σ2 F2 H2 st (h σ2 F2 H2 st)
  | ex x e => exact h
theorem RS.bind {o : Out Fl} {f : Fl → Env → Out Fl} {k : Fl → Env → L2.St → Hp → Hp → Prop} (h : RS c W H0 F env σ (o.bind f) k) : RS c W H0 F env σ o fun a e σ' F' _ => RS c W H0 F' e σ' (f a e) k := by
  cases o with
  | no => exact h
  | ok a e => exact fun σ2 F2 H2 st => RS.base st h
  | ex x e => exact h
/-- an expression, then a statement -/
theorem RS.ofE {o : Out α} {f : α → Env → Out Fl} {k : Fl → Env → L2.St → Hp → Hp → Prop} (h : RS c W H0 F env σ (o.bind f) k) : Res c W H0 F env σ o fun a e F' _ => RS c W H0 F' e σ (f a e) k := by
  cases o with
  | no => exact h
  | ok a e => exact fun F2 H2 st => RS.base st.toS h
  | ex x e => exact fun F2 H2 cl dx st => h σ F2 H2 cl dx st.toS
theorem RS.seqE {o : Out α} {f : α → Env → Out Fl} {k : Fl → Env → L2.St → Hp → Hp → Prop} {k' : α → Env → Hp → Hp → Prop} (h : RS c W H0 F env σ (o.bind f) k)
    (q : ∀ a e F' H', Step c H0 F env σ F' e H' → RS c W H0 F' e σ (f a e) k → k' a e F' H') : Res c W H0 F env σ o k' := h.ofE.mono q
theorem RS.ret {a : Fl} {k : Fl → Env → L2.St → Hp → Hp → Prop} (g : c.Good H0 F env σ H) (h : RS c W H0 F env σ (.ok a env) k) : k a env σ F H := h σ F H (StepS.refl g)
def finD (c : Kc) (D : Ends) : Fl → Env → L2.St → Hp → Hp → Prop := fun fl _ σ' F' H' => match fl with
  | .nx => D.nx σ' H'
  | .rt d => ∀ v, Rp c.K c.cm F' d v → D.rt v H'
  | .bk => D.bk σ' H'
  | .ct => D.ct σ' H'
/-- THE canonical reading of a statement -/
def tS (c : Kc) (W : WX) (r : Env → Out Fl) : TS := fun D σ H => ∃ H0 F env, c.Good H0 F env σ H ∧ RS c W H0 F env σ (r env) (finD c D)

def nextS (e : Env) : Out Fl := .ok .nx e
def seqS (r1 r2 : Env → Out Fl) (e : Env) : Out Fl := (r1 e).bind fun fl e1 => match fl with
  | .nx => r2 e1
  | fl => .ok fl e1
theorem dl_nil (h : PSs X [] tNext) : PSs X [] (tS c W nextS) := h.imp fun D σ H ⟨H0, F, env, g, q⟩ => q.ret g
theorem dl_seq {sts : List Stmt} {r1 r2 : Env → Out Fl} (h : PSs X sts (tSeq (tS c W r1) (tS c W r2))) : PSs X sts (tS c W (seqS r1 r2)) := h.imp fun D σ H ⟨H0, F, env, g, q⟩ =>
  ⟨H0, F, env, g, q.bind.mono fun fl e σ' F' H' st k => by
    cases fl with
    | nx => exact ⟨H0, F', e, st.good, k⟩
    | rt d => exact RS.ret (W := W) (k := finD c D) st.good k
    | bk => exact RS.ret (W := W) (k := finD c D) st.good k
    | ct => exact RS.ret (W := W) (k := finD c D) st.good k⟩
theorem dl_pass {st : Stmt} (h : PS X st tNext) : PS X st (tS c W nextS) := h.imp fun D σ H ⟨H0, F, env, g, q⟩ => q.ret g
def breakS (e : Env) : Out Fl := .ok .bk e
def contS (e : Env) : Out Fl := .ok .ct e
theorem dl_break {st : Stmt} (h : PS X st tBreak) : PS X st (tS c W breakS) := h.imp fun D σ H ⟨H0, F, env, g, q⟩ => q.ret g
theorem dl_cont {st : Stmt} (h : PS X st tCont) : PS X st (tS c W contS) := h.imp fun D σ H ⟨H0, F, env, g, q⟩ => q.ret g
def neverS (_ : Env) : Out Fl := .no
theorem dl_never {st : Stmt} (h : PS X st tNever) : PS X st (tS c W neverS) := h.imp fun D σ H ⟨H0, F, env, g, q⟩ => q
def dropS (r : Env → Out D) (e : Env) : Out Fl := (r e).bind fun _ e1 => .ok .nx e1
theorem dl_drop {st : Stmt} {r : Env → Out D} (h : PS X st (tDrop (tD c W r))) : PS X st (tS c W (dropS r)) := h.imp fun D σ H ⟨H0, F, env, g, q⟩ =>
  ⟨H0, F, env, g, q.seqE fun d e F' H' st k v hv => k.ret st.good⟩
def retS (r : Env → Out D) (e : Env) : Out Fl := (r e).bind fun d e1 => .ok (.rt d) e1
theorem dl_ret {st : Stmt} {r : Env → Out D} (h : PS X st (tRet (tD c W r))) : PS X st (tS c W (retS r)) := h.imp fun D σ H ⟨H0, F, env, g, q⟩ =>
  ⟨H0, F, env, g, q.seqE fun d e F' H' st k v hv => k.ret st.good v hv⟩
def retNS (e : Env) : Out Fl := .ok (.rt .non) e
theorem dl_retN {st : Stmt} (h : PS X st tRetN) : PS X st (tS c W retNS) := h.imp fun D σ H ⟨H0, F, env, g, q⟩ => q.ret g _ (by simp [Rp])
def ifS (rc : Env → Out Bool) (ra rb : Env → Out Fl) (e : Env) : Out Fl := (rc e).bind fun b e1 => if b = true then ra e1 else rb e1
theorem dl_if {st : Stmt} {rc : Env → Out Bool} {ra rb : Env → Out Fl} (h : PS X st (tIfS (tT c W rc) (tS c W ra) (tS c W rb))) : PS X st (tS c W (ifS rc ra rb)) := h.imp fun D σ H ⟨H0, F, env, g, q⟩ =>
  ⟨H0, F, env, g, q.seqE fun b e F' H' st k => by
    cases b with
    | true => exact ⟨H0, F', e, st.good, k⟩
    | false => exact ⟨H0, F', e, st.good, k⟩⟩

/-! ### assignments -/
/-- what a target does, as a step -/
def keepsB (e e' : Env) : Bool := decide (e'.length = e.length) && (e.zip e').all fun (a, b) => a.isB == b.isB
theorem keepsB_at {e e' : Env} (h : keepsB e e' = true) {i : Nat} {a b : SV} (h1 : e[i]? = some a) (h2 : e'[i]? = some b) : a.isB = b.isB := by
  simp only [keepsB, Bool.and_eq_true] at h
  have m : (a, b) ∈ e.zip e' := List.mem_of_getElem? (i := i) (by rw [List.getElem?_zip_eq_some]; exact ⟨h1, h2⟩)
  have := List.all_eq_true.mp h.2 _ m
  simpa using this
def asgS (r : Env → Out D) (rg : D → Env → Option Env) (sl : List Nat) (e : Env) : Out Fl := (r e).bind fun d e1 => match rg d e1 with
  | some e2 => if (keepsB e1 e2 && freeE e2 sl) = true then .ok .nx e2 else .no
  | none => .no
theorem StepS.ofTarget {sl : List Nat} {e1 e2 : Env} {σ2 : L2.St} (g1 : c.Good H0 F e1 σ H) (g2 : c.Good H0 F e2 σ2 H) (h : (keepsB e1 e2 && freeE e2 sl) = true) (k : ∀ j, j ∉ sl → σ2[j]? = σ[j]? ∧ e2[j]? = e1[j]?) : StepS c H0 F e1 σ F e2 σ2 H := by
  simp only [Bool.and_eq_true] at h
  have hl : e2.length = e1.length := by have := h.1; simp only [keepsB, Bool.and_eq_true, decide_eq_true_eq] at this; exact this.1
  refine ⟨Same.refl _, g2, fun _ _ _ e => e, hl, fun i o e => ?_, fun i o e => ?_⟩
  · have hi : i < e2.length := by rw [hl]; exact (List.getElem?_eq_some_iff.mp e).1
    have e' : e2[i]? = some e2[i] := by simp [hi]
    have kb := keepsB_at h.1 e e'
    have hb : ∃ o', e2[i]? = some (.bor o') := by
      cases hs : e2[i] with
      | bor o' => exact ⟨o', by rw [e', hs]⟩
      | _ => rw [hs] at kb; cases kb
    refine ⟨hb, ?_⟩
    by_cases hv : i ∈ sl
    · obtain ⟨o', e3⟩ := hb
      have := freeE_at h.2 hv e3; cases this
    · exact (k i hv).1
  · have hi : i < e1.length := by rw [← hl]; exact (List.getElem?_eq_some_iff.mp e).1
    have e' : e1[i]? = some e1[i] := by simp [hi]
    have kb := keepsB_at h.1 e' e
    cases hs : e1[i] with
    | bor o' => exact ⟨o', by rw [e', hs]⟩
    | _ => rw [hs] at kb; cases kb
theorem dl_asg {st : Stmt} {r : Env → Out D} {sl : List Nat} {rg : D → Env → Option Env} (h : PS X st (tAsg (tD c W r) (tG c sl rg))) : PS X st (tS c W (asgS r rg sl)) := h.imp fun D σ H ⟨H0, F, env, g, q⟩ =>
  ⟨H0, F, env, g, q.seqE fun d e F' H' st k v hv => by
    refine ⟨H0, F', e, d, st.good, hv, ?_⟩
    cases hr : rg d e with
    | none => rw [hr] at k; exact k
    | some e2 =>
      rw [hr] at k
      intro σ2 hl g2 kk
      by_cases hk : (keepsB e e2 && freeE e2 sl) = true
      · have k : RS c W H0 F' e σ (if (keepsB e e2 && freeE e2 sl) = true then .ok .nx e2 else .no) (finD c D) := k
        rw [if_pos hk] at k
        exact k σ2 F' H' (StepS.ofTarget st.good g2 hk kk)
      · have k : RS c W H0 F' e σ (if (keepsB e e2 && freeE e2 sl) = true then .ok .nx e2 else .no) (finD c D) := k
        rw [if_neg hk] at k
        exact k.elim⟩
/-- a name is given an own list -/
def asgOS (i : Nat) (r : Env → Out (List D)) (e : Env) : Out Fl := (r e).bind fun l e1 => match e1[i]? with
  | some sv => if sv.isB = true then .no else .ok .nx (e1.set i (.own (.L l)))
  | none => .no
theorem Good.ownStep {i : Nat} {sv : SV} {ov : OV} {p : Addr} {o : HO} (g : c.Good H0 F env σ H) (e : env[i]? = some sv) (nb : ¬ sv.isB = true) (a : Apart env σ H0 F H p o) (r : RO c.K c.cm F H p ov) : StepS c H0 F env σ F (env.set i (.own ov)) (σ.set i (some (.ref p))) H := by
  refine ⟨Same.refl _, g.setOwn (fun t e1 => by rw [e] at e1; cases e1; simpa using nb) a r, fun _ _ _ e => e, by simp, fun j x ej => ?_, fun j x ej => ?_⟩
  · have hj : j ≠ i := fun z => by subst z; rw [e] at ej; cases ej; exact nb rfl
    exact ⟨⟨x, by rw [List.getElem?_set_ne (Ne.symm hj)]; exact ej⟩, List.getElem?_set_ne (Ne.symm hj)⟩
  · by_cases hj : j = i
    · subst hj
      rw [List.getElem?_set_self (by have := (List.getElem?_eq_some_iff.mp e).1; exact this)] at ej
      cases ej
    · exact ⟨x, by rwa [List.getElem?_set_ne (Ne.symm hj)] at ej⟩
theorem dl_asgO {st : Stmt} {i : Nat} {r : Env → Out (List D)} (h : PS X st (tAsg (tF c W r) (gName i))) : PS X st (tS c W (asgOS i r)) := h.imp fun D σ H ⟨H0, F, env, g, q⟩ =>
  ⟨H0, F, env, g, q.seqE fun l e F' H' st k v ⟨p, xs, hv, ap, rl⟩ => by
    subst hv
    cases he : e[i]? with
    | none => rw [he] at k; exact k.elim
    | some sv =>
      rw [he] at k
      by_cases hb : sv.isB = true
      · have k : RS c W H0 F' e σ (if sv.isB = true then .no else .ok .nx (e.set i (.own (.L l)))) (finD c D) := k
        rw [if_pos hb] at k; exact k.elim
      · have k : RS c W H0 F' e σ (if sv.isB = true then .no else .ok .nx (e.set i (.own (.L l)))) (finD c D) := k
        rw [if_neg hb] at k
        exact k _ _ _ (st.good.ownStep he hb ap ⟨xs, ap.h, rl⟩)⟩
/-- own object's content replaced -/
def putOv (i : Nat) (ov : OV) (e : Env) : Option Env := match e[i]? with
  | some (.own _) => some (e.set i (.own ov))
  | some (.bor _) => some (e.set i (.bor ov))
  | _ => none
theorem putOv_step {i : Nat} {ov : OV} {a : Addr} {o : HO} {e2 : Env} (g : c.Good H0 F env σ H) (h : putOv i ov env = some e2) (ha : σ[i]? = some (some (.ref a))) (r : RO c.K c.cm F (upd H a o) a ov) : Step c H0 F env σ F e2 (upd H a o) := by
  unfold putOv at h
  split at h
  · rename_i x e
    cases h
    exact g.change e rfl ha (.inl ⟨x, rfl, rfl⟩) r
  · rename_i x e
    cases h
    exact g.change e rfl ha (.inr ⟨x, rfl, rfl⟩) r
  · cases h
/-- own[i] = v -/
def storeS (i : Nat) (rk rv : Env → Out D) (e : Env) : Out Fl := (rv e).bind fun d e1 => match lstOf e1[i]? with
  | none => .no
  | some _ => (rk e1).bind fun k e2 => match lstOf e2[i]?, k with
    | some l, .int n => (match ixN l.length n with
      | some j => (match putOv i (.L (l.set j d)) e2 with
        | some e3 => .ok .nx e3
        | none => .no)
      | none => .no)
    | _, _ => .no
theorem dl_store {st : Stmt} {i : Nat} {rk rv : Env → Out D} (h : PS X st (tAsg (tD c W rv) (gSub (tVar i) (tD c W rk) rSetL))) : PS X st (tS c W (storeS i rk rv)) := h.imp fun D σ H ⟨H0, F, env, g, q⟩ =>
  ⟨H0, F, env, g, q.seqE fun d e F1 H1 st k v hv => by
    split at k
    · exact k.elim
    · rename_i l0 el0
      obtain ⟨a, xs0, ha, _, _⟩ := own_list st.good el0
      refine ⟨_, ha, H0, F1, e, st.good, k.seqE fun kd e2 F2 H2 s2 k2 u hu => ?_⟩
      split at k2
      · rename_i l n el
        split at k2
        · rename_i j hj
          split at k2
          · rename_i e3 hp
            obtain ⟨a', xs, ha', hH, r⟩ := own_list s2.good el
            rw [ha] at ha'; cases ha'
            simp only [Rp] at hu
            subst hu
            refine ⟨a, xs, n, j, rfl, rfl, hH, by rw [r.len]; exact hj, ?_⟩
            have st3 := putOv_step (o := .lst (xs.set j v)) s2.good hp ha ⟨_, upd_same, r.set (Rp.mono s2.same _ _ hv)⟩
            exact k2 σ F2 _ st3.toS
          · exact k2.elim
        · exact k2.elim
      · exact k2.elim⟩
/-- own.append(v) -/
def appS (i : Nat) (rv : Env → Out D) (e : Env) : Out Fl := match lstOf e[i]? with
  | none => .no
  | some _ => (rv e).bind fun d e2 => match lstOf e2[i]? with
    | some l => if l.length < sizeLine then (match putOv i (.L (l ++ [d])) e2 with
        | some e3 => .ok .nx e3
        | none => .no) else .no
    | none => .no
theorem dl_app {st : Stmt} {i : Nat} {rv : Env → Out D} (h : PS X st (tDrop (tBM c.K "list" rAppend (tVar i) (tCons (tD c W rv) tNil)))) : PS X st (tS c W (appS i rv)) := h.imp fun D σ H ⟨H0, F, env, g, q⟩ => by
  unfold appS at q
  split at q
  · exact q.elim
  · rename_i l0 el0
    obtain ⟨a, xs0, ha, hH0, _⟩ := own_list g el0
    refine ⟨_, ha, .inl ⟨rfl, _, .inl (.inl hH0)⟩, H0, F, env, g, q.seqE fun d e2 F2 H2 s2 k2 v hv => ?_⟩
    split at k2
    · rename_i l el
      split at k2
      · rename_i hz
        split at k2
        · rename_i e3 hp
          obtain ⟨a', xs, ha', hH, r⟩ := own_list s2.good el
          rw [ha] at ha'; cases ha'
          refine ⟨a, xs, v, rfl, rfl, hH, by rw [r.len]; exact hz, ?_⟩
          have st3 := putOv_step (o := .lst (xs ++ [v])) s2.good hp ha ⟨_, upd_same, r.append (RpL.cons hv RpL.nil)⟩
          exact k2 σ F2 _ st3.toS
        · exact k2.elim
      · exact k2.elim
    · exact k2.elim
/-- own.extend(v) -/
def extS (i : Nat) (rv : Env → Out D) (e : Env) : Out Fl := match lstOf e[i]? with
  | none => .no
  | some _ => (rv e).bind fun d e2 => match lstOf e2[i]?, d with
    | some l, .lst m => if l.length + m.length ≤ sizeLine then (match putOv i (.L (l ++ m)) e2 with
        | some e3 => .ok .nx e3
        | none => .no) else .no
    | _, _ => .no
theorem dl_ext {st : Stmt} {i : Nat} {rv : Env → Out D} (h : PS X st (tDrop (tBM c.K "list" rExtend (tVar i) (tCons (tD c W rv) tNil)))) : PS X st (tS c W (extS i rv)) := h.imp fun D σ H ⟨H0, F, env, g, q⟩ => by
  unfold extS at q
  split at q
  · exact q.elim
  · rename_i l0 el0
    obtain ⟨a, xs0, ha, hH0, _⟩ := own_list g el0
    refine ⟨_, ha, .inl ⟨rfl, _, .inl (.inl hH0)⟩, H0, F, env, g, q.seqE fun d e2 F2 H2 s2 k2 v hv => ?_⟩
    split at k2
    · rename_i l m el
      split at k2
      · rename_i hz
        split at k2
        · rename_i e3 hp
          obtain ⟨a', xs, ha', hH, r⟩ := own_list s2.good el
          rw [ha] at ha'; cases ha'
          simp only [Rp] at hv
          obtain ⟨b, ys, rfl, hb, r2⟩ := hv
          refine ⟨a, b, xs, ys, rfl, rfl, hH, s2.good.le _ _ hb, by rw [r.len, r2.len]; exact hz, ?_⟩
          have st3 := putOv_step (o := .lst (xs ++ ys)) s2.good hp ha ⟨_, upd_same, r.append r2⟩
          exact k2 σ F2 _ st3.toS
        · exact k2.elim
      · exact k2.elim
    · exact k2.elim

/-! ### loops -/
def loopS (rg : D → Env → Option Env) (sl : List Nat) (rb : Env → Out Fl) : List D → Env → Out Fl
  | [], e => .ok .nx e
  | d :: ds, e => match rg d e with
    | none => .no
    | some e2 => if (keepsB e e2 && freeE e2 sl) = true then (rb e2).bind fun fl e3 => match fl with
        | .nx => loopS rg sl rb ds e3
        | .ct => loopS rg sl rb ds e3
        | .bk => .ok .nx e3
        | .rt d => .ok (.rt d) e3
      else .no
def forS (ri : Env → Out (List D)) (rg : D → Env → Option Env) (sl : List Nat) (rb : Env → Out Fl) (e : Env) : Out Fl := (ri e).bind fun ds e1 => loopS rg sl rb ds e1
theorem dl_for {st : Stmt} {ri : Env → Out (List D)} {sl : List Nat} {rg : D → Env → Option Env} {rb : Env → Out Fl} (h : PS X st (tFor (tI c W ri) (tG c sl rg) (tS c W rb))) : PS X st (tS c W (forS ri rg sl rb)) := h.imp fun D σ H ⟨H0, F, env, g, q⟩ => by
  refine ⟨H0, F, env, g, q.seqE fun ds e1 F1 H1 s1 q1 J G w hG => ?_⟩
  refine for_it w (fun i σ2 H2 => ∃ F2 env2, StepS c H0 F1 e1 σ F2 env2 σ2 H2 ∧ RS c W H0 F2 env2 σ2 (loopS rg sl rb (ds.drop i) env2) (finD c D)) ⟨F1, e1, StepS.refl s1.good, q1⟩
    (fun i σ2 H2 _ ⟨F2, env2, st, _⟩ => hG F2 H2 st.same st.good.le) ?_ ?_
  · rintro i x σ2 H2 H3 hi ⟨F2, env2, st, qi⟩ y
    obtain ⟨F3, d, hd, s3, rd⟩ := YD.step st.good st.same y
    have hdrop : ds.drop i = d :: ds.drop (i + 1) := by
      have hi' : i < ds.length := hi
      rw [List.drop_eq_getElem_cons hi']
      rw [List.getElem?_eq_getElem hi'] at hd
      rw [Option.some.inj hd]
    rw [hdrop] at qi
    simp only [loopS] at qi
    refine ⟨H0, F3, env2, d, s3.good, rd, ?_⟩
    cases hr : rg d env2 with
    | none => rw [hr] at qi; exact qi
    | some e2 =>
      rw [hr] at qi
      intro σ3 hl g3 kk
      by_cases hk : (keepsB env2 e2 && freeE e2 sl) = true
      case neg => simp only [if_neg hk] at qi; exact qi.elim
      simp only [if_pos hk] at qi
      have st4 : StepS c H0 F2 env2 σ2 F3 e2 σ3 H3 := s3.toS.trans (StepS.ofTarget s3.good g3 hk kk)
      refine ⟨H0, F3, e2, st4.good, ((RS.base st4 qi).bind).mono fun fl e5 σ5 F5 H5 st5 k5 => ?_⟩
      cases fl with
      | nx => exact ⟨F5, e5, (st.trans st4).trans st5, k5⟩
      | ct => exact ⟨F5, e5, (st.trans st4).trans st5, k5⟩
      | bk => exact RS.ret (W := W) (k := finD c D) st5.good k5
      | rt d => exact RS.ret (W := W) (k := finD c D) st5.good k5
  · rintro σ2 H2 ⟨F2, env2, st, qi⟩
    have hdrop : ds.drop ds.length = [] := List.drop_length
    rw [hdrop] at qi
    exact qi.ret st.good
/-- a while, at most so many turns -/
def whileS (rc : Env → Out Bool) (rb : Env → Out Fl) : Nat → Env → Out Fl
  | 0, _ => .no
  | n + 1, e => (rc e).bind fun b e1 => if b = true then (rb e1).bind fun fl e2 => match fl with
      | .nx => whileS rc rb n e2
      | .ct => whileS rc rb n e2
      | .bk => .ok .nx e2
      | .rt d => .ok (.rt d) e2
    else .ok .nx e1
theorem dl_while {st : Stmt} {rc : Env → Out Bool} {rb : Env → Out Fl} (n : Nat) (h : PS X st (tWhile (tT c W rc) (tS c W rb))) : PS X st (tS c W (whileS rc rb n)) := h.imp fun D σ H ⟨H0, F, env, g, q⟩ => by
  refine ⟨fun m σ2 H2 => ∃ F2 env2, c.Good H0 F2 env2 σ2 H2 ∧ RS c W H0 F2 env2 σ2 (whileS rc rb m env2) (finD c D), ⟨n, F, env, g, q⟩, ?_⟩
  rintro m σ2 H2 ⟨F2, env2, g2, q2⟩
  cases m with
  | zero => exact q2.elim
  | succ m =>
    simp only [whileS] at q2
    refine ⟨H0, F2, env2, g2, q2.seqE fun b e3 F3 H3 s3 k3 => ?_⟩
    cases b with
    | true =>
      refine ⟨fun σ4 H4 => ∃ F4 env4, c.Good H0 F4 env4 σ4 H4 ∧ RS c W H0 F4 env4 σ4 (whileS rc rb m env4) (finD c D), fun σ4 H4 z => ⟨m, Nat.lt_succ_self m, z⟩, H0, F3, e3, s3.good, k3.bind.mono fun fl e5 σ5 F5 H5 st5 k5 => ?_⟩
      cases fl with
      | nx => exact ⟨F5, e5, st5.good, k5⟩
      | ct => exact ⟨F5, e5, st5.good, k5⟩
      | bk => exact RS.ret (W := W) (k := finD c D) st5.good k5
      | rt d => exact RS.ret (W := W) (k := finD c D) st5.good k5
    | false => exact k3.ret s3.good
end
end DL

/-! ==== DL7 -/
/-! DL7: tests, fields, several targets at once -/
namespace DL
open PySem L2
section
variable {c : Kc} {W : WX} {X : Cx} {H0 F F' H H' : Hp} {env env' : Env} {σ σ' : L2.St} {Q : VK}
def blOf (d : D) (e : Env) : Out Bool := match d with
  | .bl b => .ok b e
  | _ => .no
def valT (r : Env → Out D) (e : Env) : Out Bool := (r e).bind blOf
theorem dl_valT {e : Expr} {r : Env → Out D} (h : PT X e (tB (tD c W r))) : PT X e (tT c W (valT r)) := h.imp fun σ H Q ⟨H0, F, env, g, q⟩ =>
  ⟨H0, F, env, g, q.seq fun d e F' H' st k v hv => by
    unfold blOf at k
    split at k
    · simp only [Rp] at hv
      exact ⟨_, hv, k.ret st.good⟩
    · exact k.elim⟩
def truthF : D → Option Bool
  | .non => some false
  | .bl b => some b
  | .int i => some (i != 0)
  | .str y => if y.length ≤ sizeLine then some ((y.length : Int) != 0) else none
  | .tup l => some (!l.isEmpty)
  | .lst l => some (!l.isEmpty)
  | .ro l => some (!l.isEmpty)
  | _ => none
def truthT (r : Env → Out D) (e : Env) : Out Bool := (r e).bind fun d e1 => match truthF d with
  | some b => .ok b e1
  | none => .no
theorem isEmpty_rp {l : List D} {xs : List V} (r : RpL c.K c.cm F l xs) : (!l.isEmpty) = !xs.isEmpty := by
  cases l with
  | nil => simp only [RpL] at r; subst r; rfl
  | cons d l => simp only [RpL] at r; obtain ⟨v, w, rfl, _⟩ := r; rfl
theorem truth_rp {d : D} {v : V} {b : Bool} (g : c.Good H0 F env σ H) (h : truthF d = some b) (r : Rp c.K c.cm F d v) : TruV c.K v H b := by
  cases d with
  | non => simp only [Rp] at r; subst r; cases h; rfl
  | bl x => simp only [Rp] at r; subst r; cases h; rfl
  | int x => simp only [Rp] at r; subst r; cases h; rfl
  | str x =>
    simp only [Rp] at r; subst r
    simp only [truthF] at h
    split at h
    · cases h; exact ⟨by assumption, rfl⟩
    · cases h
  | tup l => simp only [Rp] at r; obtain ⟨a, xs, rfl, q, r⟩ := r; cases h; exact .inr (.inl ⟨xs, same_T g.le q, isEmpty_rp r⟩)
  | lst l => simp only [Rp] at r; obtain ⟨a, xs, rfl, q, r⟩ := r; cases h; exact .inl ⟨xs, SqL.of (g.le _ _ q), isEmpty_rp r⟩
  | ro l => simp only [Rp] at r; obtain ⟨a, xs, rfl, q, r⟩ := r; cases h; exact .inl ⟨xs, g.le.seq q, isEmpty_rp r⟩
  | dK _ _ => cases h
  | dT _ _ => cases h
  | obj _ _ _ => cases h
theorem dl_truthT {e : Expr} {r : Env → Out D} (h : PT X e (fun σ H Q => tD c W r σ H fun x H1 => ∃ k, TruV c.K x H1 k ∧ Q k H1)) : PT X e (tT c W (truthT r)) := h.imp fun σ H Q ⟨H0, F, env, g, q⟩ =>
  ⟨H0, F, env, g, q.seq fun d e F' H' st k v hv => by
    split at k
    · rename_i b hb
      exact ⟨b, truth_rp st.good hb hv, k.ret st.good⟩
    · exact k.elim⟩
def andT (ra rb : Env → Out Bool) (e : Env) : Out Bool := (ra e).bind fun b e1 => if b = true then rb e1 else .ok false e1
def orT (ra rb : Env → Out Bool) (e : Env) : Out Bool := (ra e).bind fun b e1 => if b = true then .ok true e1 else rb e1
def notT (ra : Env → Out Bool) (e : Env) : Out Bool := (ra e).bind fun b e1 => .ok (!b) e1
theorem t_and {ra rb : Env → Out Bool} {Q : Bool → Hp → Prop} (h : tT c W (andT ra rb) σ H Q) : tAnd (tT c W ra) (tT c W rb) σ H Q := by
  obtain ⟨H0, F, env, g, q⟩ := h
  exact ⟨H0, F, env, g, q.seq fun b e F' H' st k => by
    cases b with
    | true => exact ⟨H0, F', e, st.good, k⟩
    | false => exact Res.ret (W := W) (k := kT Q) st.good k⟩
theorem t_or {ra rb : Env → Out Bool} {Q : Bool → Hp → Prop} (h : tT c W (orT ra rb) σ H Q) : tOr (tT c W ra) (tT c W rb) σ H Q := by
  obtain ⟨H0, F, env, g, q⟩ := h
  exact ⟨H0, F, env, g, q.seq fun b e F' H' st k => by
    cases b with
    | true => exact Res.ret (W := W) (k := kT Q) st.good k
    | false => exact ⟨H0, F', e, st.good, k⟩⟩
theorem _root_.L2.PW.imp {X : Cx} {e : Expr} {t t' : TT} (h : PW X e t) (i : ∀ σ H Q, t' σ H Q → t σ H Q) : PW X e t' := ⟨fun w pins s σ H Q I q => h.run w pins s σ H Q I (i σ H Q q)⟩
theorem dl_andT {e : Expr} {ra rb : Env → Out Bool} (h : PW X e (tAnd (tT c W ra) (tT c W rb))) : PW X e (tT c W (andT ra rb)) := h.imp fun _ _ _ => t_and
theorem dl_orT {e : Expr} {ra rb : Env → Out Bool} (h : PW X e (tOr (tT c W ra) (tT c W rb))) : PW X e (tT c W (orT ra rb)) := h.imp fun _ _ _ => t_or
theorem dl_notT {e : Expr} {ra : Env → Out Bool} (h : PT X e (tNot (tT c W ra))) : PT X e (tT c W (notT ra)) := h.imp fun σ H Q ⟨H0, F, env, g, q⟩ =>
  ⟨H0, F, env, g, q.seq fun b e F' H' st k => Res.ret (W := W) (k := kT Q) st.good k⟩
/-- a comprehension's tests -/
theorem _root_.L2.PTs.imp {X : Cx} {e : List Expr} {t t' : TT} (h : PTs X e t) (i : ∀ σ H Q, t' σ H Q → t σ H Q) : PTs X e t' := ⟨fun pins s σ H Q I q => h.run pins s σ H Q I (i σ H Q q)⟩
def yesT (e : Env) : Out Bool := .ok true e
theorem dl_yesT (h : PTs X [] tYes) : PTs X [] (tT c W yesT) := h.imp fun σ H Q ⟨H0, F, env, g, q⟩ => q.ret g
/-- and, or, not of truths, as values -/
def andD (ra rb : Env → Out D) (e : Env) : Out D := (ra e).bind fun d e1 => match d with
  | .bl b => if b = true then rb e1 else .ok (.bl false) e1
  | _ => .no
def orD (ra rb : Env → Out D) (e : Env) : Out D := (ra e).bind fun d e1 => match d with
  | .bl b => if b = true then .ok (.bl true) e1 else rb e1
  | _ => .no
def notD (ra : Env → Out D) (e : Env) : Out D := (ra e).bind fun d e1 => match d with
  | .bl b => .ok (.bl (!b)) e1
  | _ => .no
theorem dl_andD {e : Expr} {ra rb : Env → Out D} (h : PE X e (tAndV (tD c W ra) (tD c W rb))) : PE X e (tD c W (andD ra rb)) := h.imp fun σ H Q ⟨H0, F, env, g, q⟩ =>
  ⟨H0, F, env, g, q.seq fun d e F' H' st k v hv => by
    split at k
    · rename_i b
      simp only [Rp] at hv
      refine ⟨b, hv, ?_⟩
      cases b with
      | true => exact ⟨H0, F', e, st.good, k⟩
      | false => exact k.ret st.good _ (by simp only [Rp])
    · exact k.elim⟩
theorem dl_orD {e : Expr} {ra rb : Env → Out D} (h : PE X e (tOrV (tD c W ra) (tD c W rb))) : PE X e (tD c W (orD ra rb)) := h.imp fun σ H Q ⟨H0, F, env, g, q⟩ =>
  ⟨H0, F, env, g, q.seq fun d e F' H' st k v hv => by
    split at k
    · rename_i b
      simp only [Rp] at hv
      refine ⟨b, hv, ?_⟩
      cases b with
      | true => exact k.ret st.good _ (by simp only [Rp])
      | false => exact ⟨H0, F', e, st.good, k⟩
    · exact k.elim⟩
theorem dl_notD {e : Expr} {ra : Env → Out D} (h : PE X e (tNotV (tD c W ra))) : PE X e (tD c W (notD ra)) := h.imp fun σ H Q ⟨H0, F, env, g, q⟩ =>
  ⟨H0, F, env, g, q.seq fun d e F' H' st k v hv => by
    split at k
    · simp only [Rp] at hv
      exact ⟨_, hv, k.ret st.good _ (by simp only [Rp])⟩
    · exact k.elim⟩
def ifD (rc : Env → Out Bool) (ra rb : Env → Out D) (e : Env) : Out D := (rc e).bind fun b e1 => if b = true then ra e1 else rb e1
theorem dl_ifD {e : Expr} {rc : Env → Out Bool} {ra rb : Env → Out D} (h : PE X e (tIf (tT c W rc) (tD c W ra) (tD c W rb))) : PE X e (tD c W (ifD rc ra rb)) := h.imp fun σ H Q ⟨H0, F, env, g, q⟩ =>
  ⟨H0, F, env, g, q.seq fun b e F' H' st k => by
    cases b with
    | true => exact ⟨H0, F', e, st.good, k⟩
    | false => exact ⟨H0, F', e, st.good, k⟩⟩
/-- a op b op c -/
def chainD (f f' : D → D → Env → Out D) (ra rb rc : Env → Out D) (e : Env) : Out D := (ra e).bind fun x e1 => (rb e1).bind fun y e2 => (f x y e2).bind fun z e3 => match z with
  | .bl k => if k = true then (rc e3).bind fun w e4 => f' y w e4 else .ok (.bl false) e3
  | _ => .no
theorem dl_chain {e : Expr} {r r' : R2} {f f' : D → D → Env → Out D} {ra rb rc : Env → Out D} (h : PE X e (tChain r r' (tD c W ra) (tD c W rb) (tD c W rc))) (p : Prim2 c r f) (p' : Prim2 c r' f') : PE X e (tD c W (chainD f f' ra rb rc)) := h.imp fun σ H Q ⟨H0, F, env, g, q⟩ =>
  ⟨H0, F, env, g, q.seq fun x e1 F1 H1 s1 q1 v hv => ⟨H0, F1, e1, s1.good, q1.seq fun y e2 F2 H2 s2 q2 u hu => by
    refine p W H0 F2 H2 e2 σ x y v u _ s2.good (Rp.mono s2.same _ _ hv) hu (q2.seq fun z e3 F3 H3 s3 q3 w hw => ?_)
    split at q3
    · rename_i k
      simp only [Rp] at hw
      refine ⟨k, hw, ?_⟩
      cases k with
      | true => exact ⟨H0, F3, e3, s3.good, q3.seq fun w' e4 F4 H4 s4 q4 t ht => p' W H0 F4 H4 e4 σ y w' u t Q s4.good (Rp.mono (s3.same.trans s4.same) _ _ hu) ht q4⟩
      | false => exact q3.ret s3.good _ (by simp only [Rp])
    · exact q3.elim⟩⟩
theorem dl_chainT {e : Expr} {r r' : R2} {f f' : D → D → Env → Out D} {ra rb rc : Env → Out D} (h : PT X e (tTest (tChain r r' (tD c W ra) (tD c W rb) (tD c W rc)))) (p : Prim2 c r f) (p' : Prim2 c r' f') : PT X e (tT c W (valT (chainD f f' ra rb rc))) := h.imp fun σ H Q ⟨H0, F, env, g, q⟩ =>
  ⟨H0, F, env, g, q.bind.seq fun x e1 F1 H1 s1 q1 v hv => ⟨H0, F1, e1, s1.good, q1.seq fun y e2 F2 H2 s2 q2 u hu => by
    refine p W H0 F2 H2 e2 σ x y v u _ s2.good (Rp.mono s2.same _ _ hv) hu (q2.seq fun z e3 F3 H3 s3 q3 w hw => ?_)
    split at q3
    · rename_i k
      simp only [Rp] at hw
      refine ⟨k, hw, ?_⟩
      cases k with
      | true =>
        refine ⟨H0, F3, e3, s3.good, q3.seq fun w' e4 F4 H4 s4 q4 t ht => p' W H0 F4 H4 e4 σ y w' u t _ s4.good (Rp.mono (s3.same.trans s4.same) _ _ hu) ht (q4.mono fun d e5 F5 H5 s5 k5 z5 hz5 => ?_)⟩
        unfold blOf at k5
        split at k5
        · simp only [Rp] at hz5
          exact ⟨_, hz5, k5.ret s5.good⟩
        · exact k5.elim
      | false =>
        have := q3.ret s3.good
        exact ⟨false, rfl, this.ret s3.good⟩
    · exact q3.elim⟩⟩

/-! ### fields -/
def fldF (cn f : Str) : D → Option D
  | .obj c ns l => if c = cn then (ns.zip l).lookup f else none
  | _ => none
theorem lookup_rp {f : Str} {d : D} : ∀ {ns : List Str} {l : List D} {fs : List (Str × V)}, fs.map (·.1) = ns → RpL c.K c.cm F l (fs.map (·.2)) → (ns.zip l).lookup f = some d → ∃ v, fs.lookup f = some v ∧ Rp c.K c.cm F d v
  | [], l, fs, h, r, e => by simp at e
  | n :: ns, [], fs, h, r, e => by simp at e
  | n :: ns, d0 :: l, fs, h, r, e => by
    cases fs with
    | nil => cases h
    | cons p fs =>
      simp only [List.map_cons, List.cons.injEq] at h
      obtain ⟨h1, h2⟩ := h
      simp only [List.map_cons, RpL] at r
      obtain ⟨v, w, e1, r1, r2⟩ := r
      cases e1
      simp only [List.zip_cons_cons, List.lookup_cons] at e ⊢
      obtain ⟨pn, pv⟩ := p
      cases h1
      simp only [List.lookup_cons]
      cases hb : f == pn with
      | true => rw [hb] at e; cases e; exact ⟨_, rfl, r1⟩
      | false =>
        rw [hb] at e
        exact lookup_rp h2 r2 e
def fldD (cn f : Str) (ra : Env → Out D) (e : Env) : Out D := (ra e).bind (pur1 (fldF cn f))
theorem dl_fld {e : Expr} {cn f : Str} {ra : Env → Out D} (h : PE X e (tFld c.K (tD c W ra) f)) (ok : ∀ C, c.cm cn = some C → Cls c.K C ∧ NoAttr c.K C f) : PE X e (tD c W (fldD cn f ra)) := h.imp fun σ H Q ⟨H0, F, env, g, q⟩ =>
  ⟨H0, F, env, g, q.seq fun d e F' H' st k v hv => by
    unfold pur1 at k
    split at k
    · rename_i y hy
      unfold fldF at hy
      split at hy
      · split at hy
        · rename_i hc
          subst hc
          simp only [Rp] at hv
          obtain ⟨a, dx, C, fs, rfl, hC, h1, h2, h3, r⟩ := hv
          obtain ⟨u, hu, ru⟩ := lookup_rp h3 r hy
          obtain ⟨o1, o2⟩ := ok C hC
          exact ⟨a, C, dx, fs, u, rfl, st.good.le _ _ h1, o1, o2, hu, k.ret st.good u ru⟩
        · cases hy
      · cases hy
    · exact k.elim⟩

end
end DL

/-! ==== DLE -/
/-! DLE: enumerate of a tuple -/
namespace DL
open PySem PySem.Spec PyProof.Rows L2

set_option maxHeartbeats 1000000 in
theorem made_enum_tup (t : Addr) (ws : Array Value) : Meets (Builtin.«enumerate.__new__» ⟨[.type "enumerate", .ref t], []⟩) (fun _ R z => z.heap.IsTuple t ws ∧
    R (.ok (.ret (.ref (z.heap.push { cls := .type "tuple_iterator", data := .fields #[.ref t, .int 0 0] }).objs.size)))
      { z with heap := (z.heap.push ⟨.type "tuple_iterator", none, .fields #[.ref t, .int 0 0], #[]⟩).push ⟨.type "enumerate", none, .fields #[.none, .bool false, .ref z.heap.objs.size, rawInt 0, .none, .none], #[]⟩ }) :=
  .of_wp fun prog w A R z hz => by
    obtain ⟨hp, g, d, tk, os⟩ := z
    obtain ⟨ht, fin⟩ := hz
    have hs := sub_enumerate
    have it1 : ∀ {A' : Around} {E : Value → Shared → Prop} {Q : Value → Shared → Prop}, Q (.ref hp.objs.size) ⟨hp.push { cls := .type "tuple_iterator", data := .fields #[.ref t, .int 0 0] }, g, d, tk, os⟩ →
        wpAny (model prog w) A' (pyIter (.ref t)) Q E ⟨hp, g, d, tk, os⟩ := fun k => wpAny_pyIter_tuple ht k
    wp_walk using it1
    refine wpAny_stack_any fun st => wpAny_pure ?_
    split
    · rename_i cc _ _ _ _ _
      cases (cc == Value.type "enumerate")
      all_goals (wp_walk using it1; exact ⟨_, rfl, fin⟩)
    · wp_walk using it1
      exact ⟨_, rfl, fin⟩

section
variable {prog : Program} {w : World} {A : Around} {E : Value → Shared → Prop} {z : Shared}
theorem begin_enum_tup {t : Addr} {ws : Array Value} {Q : Value → Shared → Prop} (ht : z.heap.IsTuple t ws)
    (fin : ∀ g, IsEnum g (z.heap.objs.size + 1) z.heap.objs.size 0 .none → g.IsTupleIter z.heap.objs.size t 0 → (∀ b o, z.heap.get? b = some o → g.get? b = some o) → Q (.ref (z.heap.objs.size + 1)) { z with heap := g }) :
    wpAny (model prog w) A (call (.type "enumerate") [.ref t]) Q E z := by
  refine callType_new F.called_enumerate (by decide) (F.typeCall_enumerate_1 _) (F.newCall_enumerate_1 _) (fun obj => F.args_object_init_2 obj _) F.entry_enumerate_new (made_enum_tup t ws) ⟨ht, ?_⟩
  generalize ho : ({ cls := .type "tuple_iterator", data := .fields #[.ref t, .int 0 0] } : Obj) = oi
  have nf : oi.isFreed = false := by rw [← ho]; rfl
  have sz : (z.heap.push oi).objs.size = z.heap.objs.size + 1 := Heap.size_push ..
  show _ ∧ _
  rw [sz]
  generalize hoe : ({ cls := .type "enumerate", data := .fields #[.none, .bool false, .ref z.heap.objs.size, rawInt 0, .none, .none] } : Obj) = oe
  have nfe : oe.isFreed = false := by rw [← hoe]; rfl
  have ge : ((z.heap.push oi).push oe).get? (z.heap.objs.size + 1) = some oe := by
    have k := Heap.get?_push_size (z.heap.push oi) (o := oe) nfe
    rwa [sz] at k
  have gi : ((z.heap.push oi).push oe).get? z.heap.objs.size = some oi := Heap.get?_push_of_some _ (Heap.get?_push_size _ nf)
  have en : IsEnum ((z.heap.push oi).push oe) (z.heap.objs.size + 1) z.heap.objs.size 0 .none := by
    rw [← hoe] at ge ⊢
    exact ge
  refine ⟨⟨oe, ge, by rw [← hoe]⟩, fin _ en ⟨oi, gi, by rw [← ho], by rw [← ho]; rfl⟩ fun b o k => Heap.get?_push_of_some _ (Heap.get?_push_of_some _ k)⟩
end

/-- the tuple at a, each item in a new pair behind its number -/
def ItE (K : PySem.W.Frag) (a : Addr) : It where
  go := fun i H => ∃ (xs : List V) (x : V), SqT K H a xs ∧ xs[i]? = some x
  yld := fun i H v H' => ∃ p x, v = .ref p ∧ H p = none ∧ H' = upd H p (.tup [.int (i : Nat), x]) ∧ ∀ xs, SqT K H a xs → xs[i]? = some x
  stop := fun i H => ∃ xs : List V, SqT K H a xs ∧ xs.length = i

theorem turn_enum_tup {P : Program} {w : World} {K : PySem.W.Frag} {elts : List Expr} {kk : Nat} {tpos : Pos} (a e it : Addr) :
    Turn P w K (.Tuple elts kk tpos) (ItE K a) [e, it] e (fun i h => (∃ old, IsEnum h e it ((i : Nat) : Int) old) ∧ h.IsTupleIter it a i ∧ e ≠ it) where
  mem := List.mem_cons_self
  obj := fun i h ⟨⟨old, he⟩, ⟨o, ho, hc, hd⟩, _⟩ b hb => by
    rcases List.mem_cons.mp hb with rfl | hb
    · exact ⟨_, he, fun v q => nomatch q⟩
    · rw [List.mem_singleton.mp hb]
      exact ⟨o, ho, fun v q => by rw [hd] at q; cases q⟩
  keep := fun i h h' ⟨⟨old, he⟩, hi, ne⟩ k => ⟨⟨old, k e (by simp) _ he⟩, hi.at fun o q => k it (by simp) o q, ne⟩
  item := by
    intro X hP hw hK hc i pins s σ H E I hf st ⟨xs, x, hq, hx⟩
    subst hP hw hK
    obtain ⟨⟨old, he⟩, hit, ne⟩ := st
    obtain ⟨its, rv, p, hz⟩ := I.tuple hq
    have hi : i < its.toArray.size := by
      have := (List.getElem?_eq_some_iff.mp hx).1
      rw [List.size_toArray, ← rv.length]; exact this
    have hait : a ≠ it := fun q => by
      subst q
      obtain ⟨o1, h1, c1, _⟩ := p
      obtain ⟨o2, h2, c2, _⟩ := hit
      rw [h1] at h2; cases h2; rw [c1] at c2; exact absurd c2 (by decide)
    have hea : e ∉ [it, a] := fun q => by
      rcases List.mem_cons.mp q with q | q
      · exact ne q
      · rw [List.mem_singleton] at q; subst q
        obtain ⟨o1, h1, c1, _⟩ := p
        rw [show s.heap.get? e = _ from he] at h1; cases h1; exact absurd (show Value.type "enumerate" = Value.type "tuple" from c1) (by decide)
    have el : e < s.heap.objs.size := Heap.lt_size he
    have il : it < s.heap.objs.size := by obtain ⟨_, q, _⟩ := hit; exact Heap.lt_size q
    have D := Draws.tuple (prog := X.prog) (w := X.w) (A := X.A.in1) (I.ok.hd hc) it a hait its.toArray
    refine wpAny_pyNext_enum_itemC D he ⟨hit, p⟩ hi ne hea fun u g tk hu eo st' hT hsz hk => ?_
    refine ⟨_, rfl, wpAny_letOwnedTupleGo_enum (s := { s with heap := g, toks := tk + 1 }) eo fun g2 he2 sb => ?_⟩
    have hT2 := (sb.2 _ (Nat.ne_of_gt el)).trans hT
    have ru : RelV x u := by
      obtain ⟨u', h1, h2⟩ := rv.get hx
      rw [List.getElem?_toArray, h1] at hu
      cases hu
      exact h2
    have new : ObjOk X.prog X.w (upd H s.heap.objs.size (.tup [.int (i : Nat), x])) g2 s.heap.objs.size (.tup [.int (i : Nat), x]) :=
      ⟨by show 2 ≤ sizeLine; decide, [.int i tk, u], .cons ⟨_, rfl⟩ (.cons ru .nil), ⟨_, hT2, rfl, _, rfl⟩⟩
    have I1 := I.turnedNew (t' := tk + 1) (ch := [e, it]) (fun b ob hb q => (sb.2 b (fun z => hb (by simp [z]))).trans (hk b ob (fun z => hb (by simp [z])) (fun z => hb (by simp [z])) q)) hf (Nat.le_refl _) new
    refine ⟨.ref s.heap.objs.size, _, I1, rfl, ⟨_, x, rfl, I.hok.fresh (Nat.le_refl _), rfl, fun ys hy => by rw [I.tuple_inj hy hq]; exact hx⟩, ⟨⟨u, ?_⟩, st'.1.at fun o q => (sb.2 it (Ne.symm ne)).trans q, ne⟩, fun b hb => ?_⟩
    · rw [show ((i + 1 : Nat) : Int) = (i : Int) + 1 by omega]; exact he2
    · have lt : b < s.heap.objs.size := by
        rcases List.mem_cons.mp hb with rfl | hb
        · exact el
        · rw [List.mem_singleton.mp hb]; exact il
      rw [upd_ne (Nat.ne_of_lt lt)]
      exact (hf b hb).1
  done := by
    intro X hP hw hK hc i pins s σ H E I hf st ⟨xs, hq, hx⟩
    subst hP hw hK
    obtain ⟨⟨old, he⟩, hit, ne⟩ := st
    obtain ⟨its, rv, p, hz⟩ := I.tuple hq
    have hait : a ≠ it := fun q => by
      subst q
      obtain ⟨o1, h1, c1, _⟩ := p
      obtain ⟨o2, h2, c2, _⟩ := hit
      rw [h1] at h2; cases h2; rw [c1] at c2; exact absurd c2 (by decide)
    obtain ⟨f0, f1, f2, f3, f4, f5⟩ := hf it (by simp)
    have D := Draws.tuple (prog := X.prog) (w := X.w) (A := X.A.in1) (I.ok.hd hc) it a hait its.toArray
    have hn : its.toArray.size = i := by rw [List.size_toArray, ← rv.length]; exact hx
    exact wpAny_pyNext_enum_endD D he (by rw [hn]; exact ⟨hit, p⟩) fun g eb => ⟨rfl, I.turned (t' := s.toks) (fun b o hb q => eb b o hb q) f0 f1 f3 f4 f5⟩
  self := fun A i s Q E ⟨⟨_, he⟩, _⟩ h => wpAny_pyIter_enum he h

def iEnT (K : PySem.W.Frag) (ta : TA) : TI := fun σ H R => ta σ H fun vs H1 => ∃ a xs, vs = [.ref a] ∧ SqT K H1 a xs ∧ R (ItE K a) H1
theorem pi_enT {X : Cx} {e : Expr} {ta : TA} {p pos tpos : Pos} {elts : List Expr} {kk : Nat} (hg : Gl X "enumerate") (hm : X.mg "enumerate" = none) (ha : PA X [e] ta) (hs : starEach [e] X.env = [(false, eval e X.env)] := by rfl) :
    PI X (.Tuple elts kk tpos) (.Call (.Name "enumerate" p) [e] [] pos) (iEnT X.K ta) := ⟨fun pins s σ H R I h => by
  refine Call_ (ld_blt I hg hm boot_enumerate (callWith_type1 (thn (ha.run pos pins s σ H _ I h) fun us s1 ⟨vs, H1, I1, r1, a, xs, ex, hq, q⟩ => ?_) hs rfl))
  subst ex
  obtain ⟨u, rfl, ru⟩ := vals1 r1
  obtain rfl : u = Value.ref a := ru
  obtain ⟨its, rv, tp, hz⟩ := I1.tuple hq
  refine begin_enum_tup tp fun g he hit hk => wpAny_pyIter_enum he ?_
  refine ⟨s1.heap.objs.size + 1, [s1.heap.objs.size + 1, s1.heap.objs.size], _, _, H1, rfl, I1.kept (t' := s1.toks) hk, turn_enum_tup a (s1.heap.objs.size + 1) s1.heap.objs.size, ⟨⟨.none, he⟩, hit, Nat.succ_ne_self _⟩, fun b hb => ?_, q⟩
  have le : s1.heap.objs.size ≤ b := by
    rcases List.mem_cons.mp hb with rfl | hb
    · exact Nat.le_succ _
    · rw [List.mem_singleton.mp hb]; exact Nat.le_refl _
  exact I1.fpOk le (I1.hok.fresh le)⟩
section
variable {c : Kc} {W : WX} {X : Cx} {H0 F F' H H' : Hp} {env env' : Env} {σ σ' : L2.St} {Q : VK}
theorem walk_enTD {a : Addr} {xs : List V} {l : List D} (r : RpL c.K c.cm F l xs) : Walk (ItE c.K a) (enL l).length (fun H => SqT c.K H a xs) (YD c F (enL l)) := by
  rw [enL_len, ← r.len]
  refine ⟨fun i H hi q => ⟨xs, xs[i], q, by simp [hi]⟩, fun H q => ⟨xs, q, rfl⟩, fun i H v H' _ q ⟨p, x, e1, e2, e3, e4⟩ => ?_⟩
  obtain ⟨d, e, r2⟩ := r.get' (e4 xs q)
  subst e1
  exact ⟨_, enL_get e, .inr ⟨p, _, _, rfl, rfl, e2, e3, RpL.cons (by simp [Rp]) (RpL.cons r2 RpL.nil)⟩⟩
def itET (ra : Env → Out (List D)) (e : Env) : Out (List D) := (ra e).bind fun ds e1 => match ds with
  | [.tup l] => .ok (enL l) e1
  | _ => .no
theorem dl_itET {tg e : Expr} {ra : Env → Out (List D)} (h : PI X tg e (iEnT c.K (tA c W ra))) : PI X tg e (tI c W (itET ra)) := h.imp fun σ H R ⟨H0, F, env, g, q⟩ => by
  refine ⟨H0, F, env, g, q.seq fun ds e1 F1 H1 s1 q1 vs hv => ?_⟩
  split at q1
  · simp only [RpL, Rp] at hv
    obtain ⟨v, w, rfl, ⟨a, xs, rfl, h1, r⟩, rfl⟩ := hv
    refine ⟨a, xs, rfl, same_T s1.good.le h1, q1.ret s1.good _ _ (walk_enTD r) fun F2 H2 s2 s3 => same_T s3 (same_T s2 h1)⟩
  · exact q1.elim
end
end DL

/-! ==== DL8 -/
/-! DL8: sorted, join, order of tuples of texts, isinstance, lists repeated -/
namespace DL
open PySem PySem.Spec PyProof.Rows L2

/-! ### sorted -/
def sortOk (ds : List D) : Bool := pureL ds && ds.all (fun a => ds.all fun b => PySem.W.alike a.toP b.toP) &&
  (ds.all (fun a => match a with | .tup (_ :: _) => true | _ => false) || ds.all fun a => match a with | .non => false | .tup _ => false | _ => true) && ds.all fun a => decide (a.toP.depth ≤ 60)
def leD (a b : D) : Bool := PySem.W.dataLe false D.toP a b
def rSortD (K : PySem.W.Frag) : List V → Hp → VK → Prop := fun vs H Q => ∃ (a : Addr) (bs : List (V × PyData)), vs = [.ref a] ∧ SqL K H a (bs.map (·.1)) ∧ (∀ b ∈ bs, Dp K H b.1 b.2) ∧ PySem.W.AllAlike (bs.map (·.2)) ∧ PySem.W.Sortable (bs.map (·.2)) ∧ (∀ b ∈ bs, b.2.depth ≤ 60) ∧
  ∀ p, H p = none → Q (.ref p) (upd H p (.lst ((bs.mergeSort (PySem.W.dataLe false (·.2))).map (·.1))))
theorem each_vals : ∀ {bs : List (V × PyData)} {its : List Value}, Vals (bs.map (·.1)) its → PySem.W.EachIs (fun v b => RelV b.1 v) its bs
  | [], _, r => by cases r; exact .nil
  | b :: bs, _, r => by cases r with | cons r1 r2 => exact .cons r1 (each_vals r2)
theorem vals_each : ∀ {bs : List (V × PyData)} {its : List Value}, PySem.W.EachIs (fun v (b : V × PyData) => RelV b.1 v) its bs → Vals (bs.map (·.1)) its
  | [], _, r => by cases r; exact .nil
  | b :: bs, _, r => by cases r with | cons r1 r2 => exact .cons r1 (vals_each r2)
theorem each_and {R S : Value → V × PyData → Prop} : ∀ {bs : List (V × PyData)} {its : List Value}, PySem.W.EachIs R its bs → (∀ b ∈ bs, ∀ v, R v b → S v b) → PySem.W.EachIs S its bs
  | [], _, r, _ => by cases r; exact .nil
  | b :: bs, _, r, h => by cases r with | cons r1 r2 => exact .cons (h b List.mem_cons_self _ r1) (each_and r2 fun b' m => h b' (List.mem_cons_of_mem _ m))
theorem cr_sortD {X : Cx} (hu : X.A.units + 62 < cLine) : CallR X (.builtin "sorted") (rSortD X.K) := by
  intro pins s σ H vs us Q I r ⟨a, bs, e1, hs, hd, hal, hso, hdep, q⟩
  subst e1
  obtain ⟨u, rfl, ru⟩ := vals1 r
  obtain rfl : u = Value.ref a := ru
  obtain ⟨its, rv, hl, hz⟩ := I.list hs
  have ev := each_vals rv
  have er : PySem.W.EachIs (fun v b => ∃ as, Reads s.heap v b.2 as) its bs := each_and ev fun b m v rb => Dp.reads I b.2 b.1 v (hd b m) rb
  have hbl : bs.length ≤ sizeLine := by simpa using hz
  refine PySem.W.sorted_data (enc := fun b : V × PyData => b.2) hl.isList ev er hal hso hbl (fun b m => ?_) fun out hlen eo => ?_
  · have := hdep b m
    show X.A.units + 2 + b.2.depth < cLine
    omega
  · obtain ⟨ep, he⟩ := PyProof.Rows.sortedAll_at s.heap its out.toArray
    have fr : H (s.heap.objs.size + 1) = none := I.hok.fresh (Nat.le_succ _)
    have vo := vals_each eo
    refine ⟨.ref _, upd H (s.heap.objs.size + 1) (.lst ((bs.mergeSort (PySem.W.dataLe false (·.2))).map (·.1))), I.laid (t' := s.toks) (fun _ _ => PyProof.Rows.sortedAll_old) (Nat.le_succ _) ⟨?_, out, ep, vo, he⟩, rfl, q _ fr⟩
    rw [List.length_map, List.length_mergeSort]
    exact hbl
section
variable {c : Kc} {W : WX} {X : Cx} {H0 F F' H H' : Hp} {env env' : Env} {σ σ' : L2.St} {Q : VK}
theorem toPL_map : ∀ l : List D, toPL l = l.map D.toP
  | [] => rfl
  | d :: l => by simp [toPL, toPL_map l]
theorem pureL_iff {l : List D} : pureL l = true ↔ ∀ d ∈ l, d.pure = true := by
  induction l with
  | nil => simp [pureL]
  | cons d l ih => simp [pureL, ih]
theorem rpl_zip : ∀ {ds : List D} {vs : List V}, RpL c.K c.cm F ds vs → ∀ p ∈ vs.zip ds, Rp c.K c.cm F p.2 p.1
  | [], _, r, p, m => by simp at m
  | d :: ds, _, r, p, m => by
    simp only [RpL] at r
    obtain ⟨v, w, rfl, r1, r2⟩ := r
    rcases List.mem_cons.mp m with rfl | m
    · exact r1
    · exact rpl_zip r2 p m
theorem rpl_of_pairs : ∀ {zs : List (V × D)}, (∀ p ∈ zs, Rp c.K c.cm F p.2 p.1) → RpL c.K c.cm F (zs.map (·.2)) (zs.map (·.1))
  | [], _ => RpL.nil
  | z :: zs, h => RpL.cons (h z List.mem_cons_self) (rpl_of_pairs fun p m => h p (List.mem_cons_of_mem _ m))
/-- sorted(xs): a new list -/
def sortF (ra : Env → Out (List D)) (e : Env) : Out (List D) := (ra e).bind fun ds e1 => match ds with
  | [x] => (match lrOf x with
    | some l => if sortOk l = true then .ok (l.mergeSort leD) e1 else .no
    | none => .no)
  | _ => .no
theorem dl_sort {e : Expr} {ra : Env → Out (List D)} (h : PE X e (tCB (rSortD c.K) (tA c W ra))) : PE X e (tF c W (sortF ra)) := h.imp fun σ H Q ⟨H0, F, env, g, q⟩ =>
  ⟨H0, F, env, g, q.seq fun ds e1 F1 H1 s1 q1 vs hv => by
    split at q1
    · rename_i x
      simp only [RpL] at hv
      obtain ⟨v, w, rfl, r1, rfl⟩ := hv
      split at q1
      · rename_i l el
        split at q1
        · rename_i ok
          obtain ⟨a, xs, l', rfl, hq, rl, e2⟩ := lr_rp (f := some) (z := l) (by rw [el]; rfl) r1
          cases e2
          simp only [sortOk, Bool.and_eq_true] at ok
          obtain ⟨⟨⟨o1, o2⟩, o3⟩, o4⟩ := ok
          have hlen := rl.len
          have m1 : (xs.zip (l.map D.toP)).map (·.1) = xs := List.map_fst_zip (by simp; omega)
          have m2 : (xs.zip (l.map D.toP)).map (·.2) = l.map D.toP := List.map_snd_zip (by simp; omega)
          have zm : xs.zip (l.map D.toP) = (xs.zip l).map fun p => (p.1, p.2.toP) := by
            rw [List.zip_map_right]; rfl
          have al : ∀ d ∈ l, ∀ d' ∈ l, PySem.W.alike d.toP d'.toP = true := fun d m d' m' => List.all_eq_true.mp (List.all_eq_true.mp o2 d m) d' m'
          refine ⟨a, xs.zip (l.map D.toP), rfl, by rw [m1]; exact s1.good.le.seq hq, fun b m => ?_, ?_, ?_, fun b m => ?_, fun p hp => ?_⟩
          · rw [zm] at m
            obtain ⟨p, mp, rfl⟩ := List.mem_map.mp m
            exact Rp.dp _ _ (pureL_iff.mp o1 _ (List.of_mem_zip mp).2) (Rp.mono s1.good.le _ _ (rpl_zip rl p mp))
          · rw [m2]
            intro d m d' m'
            obtain ⟨x, mx, rfl⟩ := List.mem_map.mp m
            obtain ⟨y, my, rfl⟩ := List.mem_map.mp m'
            exact al x mx y my
          · rw [m2]
            rw [Bool.or_eq_true] at o3
            rcases o3 with o3 | o3
            · left
              intro d m
              obtain ⟨x, mx, rfl⟩ := List.mem_map.mp m
              have := List.all_eq_true.mp o3 x mx
              split at this
              · exact ⟨_, _, by simp only [D.toP, toPL]; rfl⟩
              · cases this
            · right
              intro d m
              obtain ⟨x, mx, rfl⟩ := List.mem_map.mp m
              have := List.all_eq_true.mp o3 x mx
              have px := pureL_iff.mp o1 x mx
              cases x <;> simp [D.toP, D.pure] at this px ⊢
          · rw [zm] at m
            obtain ⟨p, mp, rfl⟩ := List.mem_map.mp m
            exact of_decide_eq_true (List.all_eq_true.mp o4 _ (List.of_mem_zip mp).2)
          · obtain ⟨g2, ap⟩ := s1.good.lay (o := .lst (((xs.zip (l.map D.toP)).mergeSort (PySem.W.dataLe false (·.2))).map (·.1))) hp
            refine q1 F1 _ ⟨Same.refl _, EnvLe.refl _, g2, fun _ _ _ e => e⟩ _ ⟨p, _, rfl, ap, ?_⟩
            have t1 : ((xs.zip l).mergeSort (fun p q => leD p.2 q.2)).map (fun p => (p.1, p.2.toP)) = (xs.zip (l.map D.toP)).mergeSort (PySem.W.dataLe false (·.2)) := by
              rw [zm]
              exact List.map_mergeSort fun a _ b _ => rfl
            have t2 : ((xs.zip l).mergeSort (fun p q => leD p.2 q.2)).map (·.2) = l.mergeSort leD := by
              have := List.map_mergeSort (f := fun p : V × D => p.2) (r := fun p q => leD p.2 q.2) (s := leD) (l := xs.zip l) (fun a _ b _ => rfl)
              rw [this, List.map_snd_zip (by omega)]
            rw [← t1, List.map_map, ← t2]
            refine rpl_of_pairs fun p m => ?_
            exact rpl_zip rl p ((List.mergeSort_perm _ _).mem_iff.mp m)
        · exact q1.elim
      · exact q1.elim
    · exact q1.elim⟩

/-! ### join -/
def joinF (a : Str) (x : D) : Option D := ((seqOf x).bind asS).bind fun (ys : List Str) => if (ys.map (·.length)).sum + ys.length * a.length ≤ 16777216 then some (.str (Txt.join a ys)) else none
def joinD (ra rb : Env → Out D) (e : Env) : Out D := (ra e).bind fun x e1 => match x with
  | .str a => (rb e1).bind (pur1 (joinF a))
  | _ => .no
def rJoin (K : PySem.W.Frag) : V → List V → Hp → VK → Prop := fun x xs H Q => ∃ a p, ∃ ys : List Str, x = .str a ∧ xs = [.ref p] ∧ (SqL K H p (ys.map V.str) ∨ SqT K H p (ys.map V.str)) ∧ (ys.map (·.length)).sum + ys.length * a.length ≤ 16777216 ∧ Q (.str (Txt.join a ys)) H
theorem dl_join {e : Expr} {ra rb : Env → Out D} (h : PE X e (tM1 (rJoin c.K) (tD c W ra) (tD c W rb))) : PE X e (tD c W (joinD ra rb)) := h.imp fun σ H Q ⟨H0, F, env, g, q⟩ =>
  ⟨H0, F, env, g, q.seq fun x e1 F1 H1 s1 q1 v hv => by
    split at q1
    · rename_i a
      simp only [Rp] at hv
      refine ⟨⟨a, hv⟩, H0, F1, e1, s1.good, q1.seq fun y e2 F2 H2 s2 q2 u hu => ?_⟩
      unfold pur1 at q2
      split at q2
      · rename_i d ed
        obtain ⟨ys, e3, e4⟩ := Option.bind_eq_some_iff.mp ed
        obtain ⟨l, e5, e6⟩ := Option.bind_eq_some_iff.mp e3
        obtain ⟨p, xs, rfl, hq, rl⟩ := seqOf_rp e5 hu
        obtain rfl := asS_eq e6 rl
        split at e4
        · cases e4
          exact ⟨a, p, ys, hv, rfl, sq_mono s2.good.le hq, by assumption, q2.ret s2.good _ (by simp only [Rp])⟩
        · cases e4
      · exact q2.elim
    · exact q1.elim⟩

/-! ### tuples of texts, in order -/
def lexS (xs ys : List Str) : Bool := Ob.lexAt (fun j => decide (xs.getD j ⟨#[]⟩ = ys.getD j ⟨#[]⟩)) (fun j => !ltS (ys.getD j ⟨#[]⟩) (xs.getD j ⟨#[]⟩)) (decide (xs.length ≤ ys.length)) 0 (min xs.length ys.length)
def rLeTS (K : PySem.W.Frag) : R2 := fun x y H Q => ∃ (a b : Addr) (xs ys : List Str), x = .ref a ∧ y = .ref b ∧ SqT K H a (xs.map V.str) ∧ SqT K H b (ys.map V.str) ∧ Q (.bl (lexS xs ys)) H
theorem op_leTS {X : Cx} (hu : X.A.units < cLine) : OpR X (compareOp .LtE) (rLeTS X.K) := by
  intro pins s σ H x y v u Q I rx ry ⟨a, b, xs, ys, e1, e2, ha, hb, q⟩
  subst e1 e2
  obtain rfl : v = Value.ref a := rx
  obtain rfl : u = Value.ref b := ry
  obtain ⟨its, r1, p1, _⟩ := I.tuple ha
  obtain ⟨its2, r2, p2, _⟩ := I.tuple hb
  have z1 : its.toArray.size = xs.length := by rw [List.size_toArray, ← r1.length, List.length_map]
  have z2 : its2.toArray.size = ys.length := by rw [List.size_toArray, ← r2.length, List.length_map]
  have look : ∀ {zs : List Str} {ws : List Value}, Vals (zs.map V.str) ws → ∀ j (h : j < ws.toArray.size), ∃ t, ws.toArray[j] = .str (zs.getD j ⟨#[]⟩) t := fun {zs ws} r j h => by
    have hj : j < zs.length := by rw [List.size_toArray, ← r.length, List.length_map] at h; exact h
    obtain ⟨w, h1, h2⟩ := r.get (i := j) (x := .str zs[j]) (by simp [hj])
    obtain ⟨t, rfl⟩ := h2
    refine ⟨t, ?_⟩
    have hw : j < ws.length := by simpa using h
    rw [List.getElem?_eq_getElem hw] at h1
    simp [Option.some.inj h1, hj]
  have R := Ob.RcOp.tuples_le (A := X.A) (s := s) (e := fun j => decide (xs.getD j ⟨#[]⟩ = ys.getD j ⟨#[]⟩)) (r := fun j => !ltS (ys.getD j ⟨#[]⟩) (xs.getD j ⟨#[]⟩)) p1 p2 hu (fun j h1 h2 => by
    obtain ⟨t, et⟩ := look r1 j h1
    obtain ⟨t', et'⟩ := look r2 j h2
    rw [et, et']
    have k := eqAt_V (A := X.A.in1) (s := s) (y := .str (xs.getD j ⟨#[]⟩)) (x := .str (ys.getD j ⟨#[]⟩)) ⟨t, rfl⟩ ⟨t', rfl⟩ rfl rfl
    have z : eqV (.str (xs.getD j ⟨#[]⟩)) (.str (ys.getD j ⟨#[]⟩)) = decide (xs.getD j ⟨#[]⟩ = ys.getD j ⟨#[]⟩) := by
      show ((xs.getD j ⟨#[]⟩) == (ys.getD j ⟨#[]⟩)) = _
      by_cases q : xs.getD j ⟨#[]⟩ = ys.getD j ⟨#[]⟩
      · rw [decide_eq_true q]; exact beq_iff_eq.mpr q
      · rw [decide_eq_false q]; exact beq_eq_false_iff_ne.mpr q
    rw [z] at k
    exact k) (fun j h1 h2 _ => by
    obtain ⟨t, et⟩ := look r1 j h1
    obtain ⟨t', et'⟩ := look r2 j h2
    rw [et, et']
    exact fun _ _ _ _ h => PySem.P.le_str h)
  rw [z1, z2] at R
  exact R _ _ _ _ ⟨.bl _, H, I, rfl, q⟩
def leA (x y : D) : Option D := match x, y with
  | .tup a, .tup b => (match asS a, asS b with
    | some xs, some ys => some (.bl (lexS xs ys))
    | _, _ => none)
  | x, y => leF x y
theorem op_leAll {X : Cx} (hu : X.A.units < cLine) : OpR X (compareOp .LtE) (fun x y H Q => rCmpA (fun i j => decide (i ≤ j)) (fun a b => !ltS b a) x y H Q ∨ rLeTS X.K x y H Q) := OpR.or op_leA (op_leTS hu)
theorem prim_leAll : Prim2 c (fun x y H Q => rCmpA (fun i j => decide (i ≤ j)) (fun a b => !ltS b a) x y H Q ∨ rLeTS c.K x y H Q) (pur2 leA) := fun W H0 F H env σ x y v u Q g hx hy q => by
  by_cases ht : ∃ a b, x = .tup a ∧ y = .tup b
  · obtain ⟨a, b, rfl, rfl⟩ := ht
    right
    unfold pur2 leA at q
    dsimp only at q
    cases ea : asS a with
    | none => rw [ea] at q; exact q.elim
    | some xs =>
      cases eb : asS b with
      | none => rw [ea, eb] at q; exact q.elim
      | some ys =>
        rw [ea, eb] at q
        simp only [Rp] at hx hy
        obtain ⟨p, us, rfl, h1, r1⟩ := hx
        obtain ⟨p2, us2, rfl, h2, r2⟩ := hy
        obtain rfl := asS_eq ea r1
        obtain rfl := asS_eq eb r2
        exact ⟨p, p2, xs, ys, rfl, rfl, same_T g.le h1, same_T g.le h2, q.ret g _ (by simp only [Rp])⟩
  · left
    refine prim_cmp W H0 F H env σ x y v u Q g hx hy ?_
    have e : leA x y = leF x y := by
      unfold leA
      split
      · rename_i a b; exact absurd ⟨a, b, rfl, rfl⟩ ht
      · rfl
    unfold pur2 at q ⊢
    rw [e] at q
    exact q

/-! ### lists repeated -/
def mulA (x y : D) : Option D := match x, y with
  | .lst l, .int k => if decide (-9223372036854775808 ≤ k ∧ k < 9223372036854775808 ∧ l.length * k.toNat ≤ sizeLine) = true then some (.lst (List.replicate k.toNat l).flatten) else none
  | x, y => mulF x y
theorem op_mulA {X : Cx} : OpR X (binaryOp .Mult) (fun x y H Q => rI CMulW (fun i j => .int (i * j)) x y H Q ∨ rRep x y H Q) := OpR.or op_mulW op_rep
theorem rpl_rep {l : List D} {xs : List V} (r : RpL c.K c.cm F l xs) : ∀ k : Nat, RpL c.K c.cm F (List.replicate k l).flatten (List.replicate k xs).flatten
  | 0 => RpL.nil
  | k + 1 => by simp only [List.replicate_succ, List.flatten_cons]; exact r.append (rpl_rep r k)
theorem prim_mulA : Prim2 c (fun x y H Q => rI CMulW (fun i j => .int (i * j)) x y H Q ∨ rRep x y H Q) (pur2 mulA) := fun W H0 F H env σ x y v u Q g hx hy q => by
  by_cases ht : ∃ l k, x = .lst l ∧ y = .int k
  · obtain ⟨l, k, rfl, rfl⟩ := ht
    right
    unfold pur2 mulA at q
    dsimp only at q
    by_cases hk : decide (-9223372036854775808 ≤ k ∧ k < 9223372036854775808 ∧ l.length * k.toNat ≤ sizeLine) = true
    · rw [if_pos hk] at q
      have hk := of_decide_eq_true hk
      simp only [Rp] at hx hy
      obtain ⟨a, xs, rfl, h1, r⟩ := hx
      subst hy
      refine ⟨a, k, xs, rfl, rfl, g.le _ _ h1, by simpa using hk.1, by simpa using hk.2.1, by rw [r.len]; exact hk.2.2, fun p hp => ?_⟩
      have st := g.alloc (o := .lst (List.replicate k.toNat xs).flatten) hp
      refine q _ _ st _ ?_
      simp only [Rp]
      exact ⟨p, _, rfl, upd_same, RpL.mono st.same _ _ (rpl_rep r _)⟩
    · rw [if_neg hk] at q
      exact q.elim
  · left
    refine prim_mul W H0 F H env σ x y v u Q g hx hy ?_
    have e : mulA x y = mulF x y := by
      unfold mulA
      split
      · rename_i l k; exact absurd ⟨l, k, rfl, rfl⟩ ht
      · rfl
    unfold pur2 at q ⊢
    rw [e] at q
    exact q

/-! ### isinstance -/
/-- what the text's classes are -/
structure ClsOk (K : PySem.W.Frag) (C : Addr) : Prop where
  cl : Cls K C
  ha : PySem.W.findIn K (.ref C) "__class__" = some (some (.builtin "object.__class__"))
  hn : PySem.W.specialIn K (.builtin "object.__class__") "__get__" = some (some (.builtin "getset_descriptor.__get__"))
  htk : PySem.W.takesIn K (.builtin "object.__class__") = some true
  hm : PySem.W.mroIn K C (.type "object") = some true
def tyName : D → Option String
  | .non => some "NoneType"
  | .bl _ => some "bool"
  | .int _ => some "int"
  | .str _ => some "str"
  | .tup _ => some "tuple"
  | .lst _ => some "list"
  | .ro _ => some "list"
  | .dK _ _ => some "dict"
  | .dT _ _ => some "dict"
  | .obj _ _ _ => none
theorem ty_rp {d : D} {v : V} {n : String} (g : c.Good H0 F env σ H) (h : tyName d = some n) (r : Rp c.K c.cm F d v) : TyX c.K H v (.type n) := by
  cases d with
  | non => simp only [Rp] at r; subst r; cases h; exact .base .non
  | bl b => simp only [Rp] at r; subst r; cases h; exact .base (.bl b)
  | int b => simp only [Rp] at r; subst r; cases h; exact .base (.int b)
  | str b => simp only [Rp] at r; subst r; cases h; exact .base (.str b)
  | tup l =>
    simp only [Rp] at r
    obtain ⟨a, xs, rfl, q, _⟩ := r
    cases h
    rcases same_T g.le q with (q | ⟨o, q⟩) | ⟨o, its, n, k1, k2, _⟩
    · exact .base (.tup q)
    · exact .fTuple q
    · exact .kTuple k1 k2
  | lst l => simp only [Rp] at r; obtain ⟨a, xs, rfl, q, _⟩ := r; cases h; exact .base (.lst (g.le _ _ q))
  | ro l =>
    simp only [Rp] at r
    obtain ⟨a, xs, rfl, q, _⟩ := r
    cases h
    rcases g.le.seq q with (q | ⟨o, q⟩) | ⟨o, its, n, k1, k2, _⟩
    · exact .base (.lst q)
    · exact .base (.frz q)
    · exact .kList k1 k2
  | dK _ _ => simp only [Rp] at r; obtain ⟨a, xs, rfl, q, _⟩ := r; cases h; exact .base (.dK (g.le _ _ q))
  | dT _ _ => simp only [Rp] at r; obtain ⟨a, xs, rfl, q, _⟩ := r; cases h; exact .base (.dT (g.le _ _ q))
  | obj _ _ _ => cases h
/-- isinstance(x, T), T a built-in class or one of the text's; k: what the library says of each kind -/
def isiD (kb : String → Option Bool) (ko : Str → Option Bool) (ra : Env → Out D) (e : Env) : Out D := (ra e).bind fun x e1 => match x with
  | .obj cn _ _ => (match ko cn with | some b => .ok (.bl b) e1 | none => .no)
  | x => (match (tyName x).bind kb with | some b => .ok (.bl b) e1 | none => .no)
theorem dl_isi {e : Expr} {kb : String → Option Bool} {ko : Str → Option Bool} {ra : Env → Out D} {cv : V} {cu : Value} (hc : ClsV cv cu) (h : PE X e (tCB (rIsi c.K) (tCons (tD c W ra) (tCons (tC cv) tNil))))
    (hb : ∀ n b, kb n = some b → PySem.W.kitOne c.K (.type n) cu = some b) (ho : ∀ cn b C, ko cn = some b → c.cm cn = some C → ClsOk c.K C ∧ PySem.W.kitOne c.K (.ref C) cu = some b) : PE X e (tD c W (isiD kb ko ra)) := h.imp fun σ H Q ⟨H0, F, env, g, q⟩ =>
  ⟨H0, F, env, g, q.seq fun x e1 F1 H1 s1 q1 v hv => by
    show rIsi c.K [v, cv] H1 Q
    split at q1
    · split at q1
      · rename_i b eb
        simp only [Rp] at hv
        obtain ⟨a, dx, C, fs, rfl, hC, h1, h2, h3, r⟩ := hv
        obtain ⟨ok, kk⟩ := ho _ _ C eb hC
        exact ⟨_, cv, _, cu, b, rfl, hc, .base (.ins (s1.good.le _ _ h1) ok.cl ok.ha ok.hn ok.htk ok.hm), kk, q1.ret s1.good _ (by simp only [Rp])⟩
      · exact q1.elim
    · split at q1
      · rename_i b eb
        obtain ⟨n, en, ek⟩ := Option.bind_eq_some_iff.mp eb
        exact ⟨_, cv, _, cu, b, rfl, hc, ty_rp s1.good en hv, hb _ _ ek, q1.ret s1.good _ (by simp only [Rp])⟩
      · exact q1.elim⟩
end
end DL

/-! ==== DL9 -/
/-! DL9: calls of the text's own defs, methods and classes -/
namespace DL
open PySem PySem.Spec PyProof.Rows L2

/-- what a call of the value cl does in this context: n positional values, keywords named ks -/
structure Runs (X : Cx) (cl : Value) (n : Nat) (ks : List Str) (sp : List V → List V → Hp → VK → Prop) : Prop where
  run : ∀ (pins : List (Addr × Obj)) (s : Shared) (σ : L2.St) (H : Hp) (Q : VK) (vs : List V) (us : List Value) (zs : List V) (ws : List Value), Inv X pins σ H s → Vals vs us → Vals zs ws → vs.length = n → zs.length = ks.length → sp vs zs H Q →
    wpAny (model X.prog X.w) X.A (call cl us (ks.zip ws)) (EP X pins σ Q) X.xe s

section
variable {X : Cx} {x m : Str} {p pos apos : Pos} {e o : Expr} {es : List Expr} {kws : List Keyword} {t tk : TA} {ta : TE} {n : Nat} {ks : List Str} {sp : List V → List V → Hp → VK → Prop} {f C : Addr}
def tRuns (n m : Nat) (sp : List V → List V → Hp → VK → Prop) (t tk : TA) : TE := fun σ H Q => t σ H fun vs H1 => tk σ H1 fun zs H2 => vs.length = n ∧ zs.length = m ∧ sp vs zs H2 Q
theorem vals_nil {us : List Value} (r : Vals [] us) : us = [] := by cases r; rfl
/-- f(e, ..), a global -/
theorem pr_call (R : Runs X (.ref f) n [] sp) (hg : Gl X x) (hm : X.mg x = some (.ref f)) (hk : PySem.W.keepIn X.K (.ref f) = true) (ha : PA X (e :: es) t)
    (hdb : (x == ("__debug__" : Str)) = false) (he : starEach (e :: es) X.env = (false, eval e X.env) :: starEach es X.env) (hpl : (backTo pos (starEach es X.env)).any (·.1) = false) :
    PE X (.Call (.Name x p) (e :: es) [] pos) (tRuns n 0 sp t tNil) := ⟨fun pins s σ H Q I h =>
  wpAny_Call_Name_kw (ld_glob I hg hm (PySem.W.callWith_K (h₀ := X.base) I.ok.mod.kin hk (thn (ha.run pos pins s σ H _ I h) fun us s1 ⟨vs, H1, I1, r, l1, l2, q⟩ => ⟨I1.kIn, R.run pins s1 σ H1 Q vs us [] [] I1 r .nil l1 l2 q⟩) he hpl) hdb)⟩
theorem pr_call0 (R : Runs X (.ref f) 0 [] sp) (hg : Gl X x) (hm : X.mg x = some (.ref f)) (hk : PySem.W.keepIn X.K (.ref f) = true) (hdb : (x == ("__debug__" : Str)) = false) :
    PE X (.Call (.Name x p) [] [] pos) (tRuns 0 0 sp tNil tNil) := ⟨fun pins s σ H Q I h =>
  wpAny_Call_Name_kw (ld_glob I hg hm (PySem.W.callWith_K0 I.kIn hk (R.run pins s σ H Q [] [] [] [] I .nil .nil h.1 h.2.1 h.2.2)) hdb)⟩
/-- f(e, .., k = v, ..) -/
theorem pr_callK (R : Runs X (.ref f) n ks sp) (hg : Gl X x) (hm : X.mg x = some (.ref f)) (hk : PySem.W.keepIn X.K (.ref f) = true) (ha : PA X (e :: es) t) (hkw : PK X kws tk)
    (hall : (backToKw pos (keywordEach kws X.env)).all (·.1.isSome) = true) (hks : (backToKw pos (keywordEach kws X.env)).filterMap (·.1) = ks)
    (hdb : (x == ("__debug__" : Str)) = false) (he : starEach (e :: es) X.env = (false, eval e X.env) :: starEach es X.env)
    (hpl : ((backTo pos (starEach (e :: es) X.env)).any (·.1) || (backToKw pos (keywordEach kws X.env)).any (·.1.isNone)) = false) :
    PE X (.Call (.Name x p) (e :: es) kws pos) (tRuns n ks.length sp t tk) := ⟨fun pins s σ H Q I h =>
  wpAny_Call_Name_kw (ld_glob I hg hm (PySem.W.callWith_KW (h₀ := X.base) I.ok.mod.kin hk hall (thn (ha.run pos pins s σ H _ I h) fun us s1 ⟨vs, H1, I1, r, q⟩ =>
    thn (hkw.run pos pins s1 σ H1 _ I1 q) fun ws s2 ⟨zs, H2, I2, rz, l1, l2, q2⟩ => ⟨I2.kIn, by rw [hks]; exact R.run pins s2 σ H2 Q vs us zs ws I2 r rz l1 l2 q2⟩) hpl he) hdb)⟩
theorem pr_callK0 (R : Runs X (.ref f) 0 ks sp) (hg : Gl X x) (hm : X.mg x = some (.ref f)) (hk : PySem.W.keepIn X.K (.ref f) = true) (hkw : PK X kws tk)
    (hall : (backToKw pos (keywordEach kws X.env)).all (·.1.isSome) = true) (hks : (backToKw pos (keywordEach kws X.env)).filterMap (·.1) = ks) (hdb : (x == ("__debug__" : Str)) = false)
    (hpl : ((backTo pos (starEach [] X.env)).any (·.1) || (backToKw pos (keywordEach kws X.env)).any (·.1.isNone)) = false) :
    PE X (.Call (.Name x p) [] kws pos) (tRuns 0 ks.length sp tNil tk) := ⟨fun pins s σ H Q I h =>
  wpAny_Call_Name_kw (ld_glob I hg hm (PySem.W.callWith_KW0 (h₀ := X.base) I.ok.mod.kin hk hall
    (thn (hkw.run pos pins s σ H _ I h) fun ws s2 ⟨zs, H2, I2, rz, l1, l2, q2⟩ => ⟨I2.kIn, by rw [hks]; exact R.run pins s2 σ H2 Q [] [] zs ws I2 .nil rz l1 l2 q2⟩) hpl) hdb)⟩
/-- o.m(e, ..), m a def of o's class -/
def tRunM (C : Addr) (m : Str) (n : Nat) (sp : List V → List V → Hp → VK → Prop) (ta : TE) (t : TA) : TE := fun σ H Q => ta σ H fun x H1 => ∃ a dx fs, x = .ref a ∧ H1 a = some (.ins C dx fs) ∧ fs.lookup m = none ∧
  t σ H1 fun vs H2 => vs.length = n ∧ sp (x :: vs) [] H2 Q
theorem pr_meth {pl : Sem Bool} (he : PE X o ta) (cl : Cls X.K C) (hm : Meth X.K C m f) (R : Runs X (.ref f) (n + 1) [] sp) (ha : PA X (e :: es) t)
    (hst : starEach (e :: es) X.env = (false, eval e X.env) :: starEach es X.env) (hpl : (backTo pos (starEach es X.env)).any (·.1) = false)
    (ht : eval (.Call (.Attribute o m apos) (e :: es) [] pos) X.env = (do
      let ov ← eval o X.env
      standAt apos.atName
      let (f, first) ← holding [ov] (getMethod ov m pl)
      callWith pos f first (backTo pos (starEach (e :: es) X.env)) (backToKw pos (keywordEach [] X.env)))) :
    PE X (.Call (.Attribute o m apos) (e :: es) [] pos) (tRunM C m n sp ta t) := ⟨fun pins s σ H Q I h => by
  refine PySem.W.methodCall_KW (pl := pl) (thn (he.run pins s σ H _ I h) fun u s1 ⟨xv, H1, I1, rx, a, dx, fs, ex, ea, l, q⟩ => ?_) ht
  subst ex
  obtain rfl : u = Value.ref a := rx
  exact getmeth_ok I1 ea cl hm l (PySem.W.callWith_K (first := [.ref a]) (h₀ := X.base) I.ok.mod.kin hm.kp (thn (ha.run pos pins s1 σ H1 _ I1 q) fun us s2 ⟨vs, H2, I2, r, l1, q2⟩ =>
    ⟨I2.kIn, R.run pins s2 σ H2 Q (.ref a :: vs) (.ref a :: us) [] [] I2 (.cons rfl r) .nil (by simp [l1]) rfl q2⟩) hst hpl)⟩
theorem pr_meth0 {pl : Sem Bool} (he : PE X o ta) (cl : Cls X.K C) (hm : Meth X.K C m f) (R : Runs X (.ref f) 1 [] sp)
    (ht : eval (.Call (.Attribute o m apos) [] [] pos) X.env = (do
      let ov ← eval o X.env
      standAt apos.atName
      let (f, first) ← holding [ov] (getMethod ov m pl)
      callWith pos f first (backTo pos (starEach [] X.env)) (backToKw pos (keywordEach [] X.env)))) :
    PE X (.Call (.Attribute o m apos) [] [] pos) (tRunM C m 0 sp ta tNil) := ⟨fun pins s σ H Q I h => by
  refine PySem.W.methodCall_KW (pl := pl) (thn (he.run pins s σ H _ I h) fun u s1 ⟨xv, H1, I1, rx, a, dx, fs, ex, ea, l, l1, q⟩ => ?_) ht
  subst ex
  obtain rfl : u = Value.ref a := rx
  exact getmeth_ok I1 ea cl hm l (PySem.W.callWith_K0 (first := [.ref a]) I1.kIn hm.kp (R.run pins s1 σ H1 Q [.ref a] [.ref a] [] [] I1 (.cons rfl .nil) .nil rfl rfl q))⟩
end

/-! ### what a def is worth, by data -/
section
variable (c : Kc)
/-- args: what is handed in, data or objects of the caller's own -/
def noOwn (svs : List SV) : Bool := svs.all fun s => match s with
  | .own _ => false
  | _ => true
def spF (fn : List SV → Out D) : Sp := fun vs H Q E => ∃ F svs, c.Good H F svs (vs.map some) H ∧ noOwn svs = true ∧ match fn svs with
  | .no => False
  | .ok d svs' => ∀ F' H', StepS c H F svs (vs.map some) F' svs' (vs.map some) H' → ∀ v, Rp c.K c.cm F' d v → Q v H'
  | .ex x svs' => ∀ F' H' cl dx, StepS c H F svs (vs.map some) F' svs' (vs.map some) H' → XRep c F' H' x cl dx → E cl dx H'
/-- the arguments behind the call: the caller's own objects as they are left -/
def backA : List SV → Env → List SV
  | [], _ => []
  | .bor o :: r, x :: e => x :: backA r e
  | s :: r, _ :: e => s :: backA r e
  | s :: r, [] => s :: r
/-- a def's value by its body -/
def fnOf (n tot : Nat) (rb : Env → Out Fl) (svs : List SV) : Out D := if svs.length = n then (match rb (svs ++ List.replicate (tot - n) .un) with
    | .ok .nx e => .ok .non (backA svs e)
    | .ok (.rt d) e => .ok d (backA svs e)
    | .ex x e => .ex x (backA svs e)
    | _ => .no) else .no
end
section
variable {c : Kc} {W : WX} {X : Cx} {H0 F F' H H' : Hp} {env env' : Env} {σ σ' : L2.St} {Q : VK}
theorem Good.args {svs : List SV} {vs : List V} (g : c.Good H0 F svs (vs.map some) H) (N : List Str) (m : Nat) (hm : N.length - vs.length = m) : c.Good H0 F (svs ++ List.replicate m .un) (L2.start N vs) H := by
  have hl : svs.length = vs.length := by simpa using g.len.symm
  have look : ∀ {i : Nat} {sv : SV}, (svs ++ List.replicate m SV.un)[i]? = some sv → (i < vs.length ∧ svs[i]? = some sv ∧ (L2.start N vs)[i]? = (vs.map some)[i]?) ∨ sv = .un := fun {i sv} e => by
    by_cases hi : i < svs.length
    · rw [List.getElem?_append_left hi] at e
      exact .inl ⟨by omega, e, by unfold L2.start; rw [List.getElem?_append_left (by simp; omega)]⟩
    · rw [List.getElem?_append_right (by omega)] at e
      have := List.mem_of_getElem? e
      exact .inr (List.eq_of_mem_replicate this)
  refine ⟨g.le, by unfold L2.start; simp [hl, hm], fun i sv e => ?_, fun i j sv tv a n e1 e2 o1 o2 r => ?_, fun a u e z => g.frame a u e fun i sv e1 sb => ?_, fun i o a e z => ?_⟩
  · rcases look e with ⟨_, e, q⟩ | rfl
    · rw [q]; exact g.slot i sv e
    · trivial
  · rcases look e1 with ⟨_, e1, q1⟩ | rfl
    · rcases look e2 with ⟨_, e2, q2⟩ | rfl
      · rw [q1] at r; rw [q2]; exact g.sep i j sv tv a n e1 e2 o1 o2 r
      · cases o2
    · cases o1
  · have hi : i < svs.length := (List.getElem?_eq_some_iff.mp e1).1
    have := z i sv (by rw [List.getElem?_append_left hi]; exact e1) sb
    unfold L2.start at this
    rwa [List.getElem?_append_left (by simp; omega)] at this
  · rcases look e with ⟨_, e, q⟩ | q
    · rw [q] at z; exact g.fresh i o a e z
    · cases q
theorem backA_len : ∀ (svs : List SV) (e : Env), (backA svs e).length = svs.length
  | [], _ => rfl
  | s :: r, [] => by cases s <;> rfl
  | s :: r, x :: e => by cases s <;> simp [backA, backA_len r e]
theorem backA_at : ∀ {svs : List SV} {e : Env} {i : Nat} {s : SV}, svs[i]? = some s → i < e.length → (backA svs e)[i]? = some (if s.isB = true then e.getD i .un else s)
  | [], _, i, _, h, _ => by simp at h
  | t :: r, [], i, _, _, h => by simp at h
  | t :: r, x :: e, 0, s, h, _ => by simp at h; subst h; cases t <;> simp [backA, SV.isB]
  | t :: r, x :: e, i + 1, s, h, hl => by
    have h1 : r[i]? = some s := by simpa using h
    have := backA_at (e := e) h1 (by simpa using hl)
    cases t <;> simpa [backA] using this
/-- from the slots at the body's end back to the parameters -/
theorem StepS.toArgs {svs : List SV} {vs : List V} {N : List Str} {m : Nat} {e : Env} (g : c.Good H F svs (vs.map some) H) (no : noOwn svs = true)
    (s : StepS c H F (svs ++ List.replicate m .un) (L2.start N vs) F' e σ' H') : StepS c H F svs (vs.map some) F' (backA svs e) (vs.map some) H' := by
  have hl : svs.length = vs.length := by simpa using g.len.symm
  have hle : svs.length ≤ e.length := by rw [s.len]; simp
  have look : ∀ {i : Nat} {tv : SV}, (backA svs e)[i]? = some tv → (∃ o, svs[i]? = some (.bor o) ∧ e[i]? = some tv ∧ tv.isB = true ∧ σ'[i]? = (vs.map some)[i]?) ∨ (svs[i]? = some tv ∧ tv.isO = false) := fun {i tv} q => by
    have hi : i < svs.length := by rw [← backA_len svs e]; exact (List.getElem?_eq_some_iff.mp q).1
    have e0 : svs[i]? = some svs[i] := by simp [hi]
    have e1 := backA_at (e := e) e0 (by omega)
    rw [q] at e1
    have e1 := Option.some.inj e1
    cases hs : svs[i] with
    | bor o =>
      rw [hs] at e0 e1
      obtain ⟨⟨o', eb⟩, qs⟩ := s.bor i o (by rw [List.getElem?_append_left hi]; exact e0)
      have e2 : tv = .bor o' := by
        rw [e1]
        simp [SV.isB, eb]
      left
      refine ⟨o, e0, by rw [e2]; exact eb, by rw [e2]; rfl, ?_⟩
      rw [qs]
      unfold L2.start
      rw [List.getElem?_append_left (by simp; omega)]
    | own o =>
      have := List.all_eq_true.mp no _ (List.mem_of_getElem? e0)
      rw [hs] at this
      cases this
    | un => rw [hs] at e0 e1; right; rw [e1]; exact ⟨e0, rfl⟩
    | dat d => rw [hs] at e0 e1; right; rw [e1]; exact ⟨e0, rfl⟩
  refine ⟨s.same, ⟨s.good.le, by rw [backA_len]; exact g.len, fun i tv q => ?_, fun i j tv uv a n q1 q2 o1 o2 r => ?_, fun a u h0 z => s.good.frame a u h0 fun i sv e1 sb => ?_, fun i o a q z => ?_⟩, s.old, backA_len _ _, fun i o q => ?_, fun i o q => ?_⟩
  · rcases look q with ⟨o, _, q1, _, q2⟩ | ⟨q1, no⟩
    · rw [← q2]; exact s.good.slot i tv q1
    · have := g.slot i tv q1
      cases tv with
      | un => trivial
      | dat d => obtain ⟨v, h1, h2⟩ := this; exact ⟨v, h1, Rp.mono s.same _ _ h2⟩
      | own o => cases no
      | bor o => cases no
  · rcases look q1 with ⟨_, _, w1, _, z1⟩ | ⟨_, no⟩
    · rcases look q2 with ⟨_, _, w2, _, z2⟩ | ⟨_, no⟩
      · rw [← z1] at r; rw [← z2]; exact s.good.sep i j tv uv a n w1 w2 o1 o2 r
      · rw [o2] at no; cases no
    · rw [o1] at no; cases no
  · have e1' : e[i]? = some sv := e1
    obtain ⟨ox, hx⟩ : ∃ o, sv = .bor o := by cases sv <;> first | exact ⟨_, rfl⟩ | cases sb
    subst hx
    obtain ⟨o', q1⟩ := s.rob i _ e1'
    have hi : i < svs.length := by
      by_cases hi : i < svs.length
      · exact hi
      · rw [List.getElem?_append_right (by omega)] at q1
        have := List.eq_of_mem_replicate (List.mem_of_getElem? q1)
        cases this
    rw [List.getElem?_append_left hi] at q1
    have q2 := backA_at (e := e) q1 (by omega)
    have q3 : (backA svs e)[i]? = some (.bor ox) := by rw [q2]; simp [SV.isB, e1']
    have q4 := z i _ q3 rfl
    rcases look q3 with ⟨_, _, _, _, z2⟩ | ⟨_, no⟩
    · rw [z2]; exact q4
    · cases no
  · rcases look q with ⟨_, _, _, b, _⟩ | ⟨_, no⟩
    · cases b
    · cases no
  · have hi : i < svs.length := (List.getElem?_eq_some_iff.mp q).1
    obtain ⟨⟨o', eb⟩, _⟩ := s.bor i o (by rw [List.getElem?_append_left hi]; exact q)
    have q2 := backA_at (e := e) q (by omega)
    exact ⟨⟨o', by rw [q2]; simp [SV.isB, eb]⟩, rfl⟩
  · rcases look q with ⟨o', q1, _, _, _⟩ | ⟨_, no⟩
    · exact ⟨o', q1⟩
    · cases no
/-- THE rule for a def: its body's canonical reading gives what it is worth -/
theorem body_of {svs : List SV} {vs : List V} {N : List Str} {n : Nat} {rb : Env → Out Fl} {fn : List SV → Out D} {Q : VK} {E : XK} (hW : W = fun _ => E) (hn : vs.length = n)
    (hf : ∀ svs, fn svs ≠ .no → fnOf n N.length rb svs = fn svs)
    (g : c.Good H F svs (vs.map some) H) (no : noOwn svs = true) (h : match fn svs with
      | .no => False
      | .ok d svs' => ∀ F' H', StepS c H F svs (vs.map some) F' svs' (vs.map some) H' → ∀ v, Rp c.K c.cm F' d v → Q v H'
      | .ex x svs' => ∀ F' H' cl dx, StepS c H F svs (vs.map some) F' svs' (vs.map some) H' → XRep c F' H' x cl dx → E cl dx H') :
    tS c W rb { nx := fun _ H' => Q .non H', rt := Q } (L2.start N vs) H := by
  subst hW
  have nn : fn svs ≠ .no := fun e => by rw [e] at h; exact h
  have hl : svs.length = n := by rw [← hn]; simpa using g.len.symm
  rw [← hf svs nn] at h
  unfold fnOf at h
  rw [if_pos hl] at h
  refine ⟨H, F, _, g.args N (N.length - n) (by rw [hn]), ?_⟩
  cases hr : rb (svs ++ List.replicate (N.length - n) .un) with
  | no => rw [hr] at h; exact h
  | ex x e =>
    rw [hr] at h
    exact fun σ' F' H' cl dx st => h F' H' cl dx (st.toArgs g no)
  | ok fl e =>
    rw [hr] at h
    cases fl with
    | nx => exact fun σ' F' H' st => h F' H' (st.toArgs g no) _ (by simp only [Rp])
    | rt d => exact fun σ' F' H' st => h F' H' (st.toArgs g no)
    | bk => exact h.elim
    | ct => exact h.elim
end
end DL

/-! ==== DL10 -/
/-! DL10: what a call does, by data -/
namespace DL
open PySem PySem.Spec PyProof.Rows L2

/-- an argument: data, or an own object by its slot -/
inductive It where
  | d (x : D)
  | r (i : Nat)
section
variable (c : Kc)
def ovOf : Option SV → Option OV
  | some (.own o) => some o
  | some (.bor o) => some o
  | _ => none
def ItsOk (F : Hp) (env : Env) (σ : L2.St) : List It → List V → Prop
  | [], vs => vs = []
  | .d x :: its, vs => ∃ v r, vs = v :: r ∧ Rp c.K c.cm F x v ∧ ItsOk F env σ its r
  | .r i :: its, vs => ∃ v r, vs = v :: r ∧ σ[i]? = some (some v) ∧ (∃ o, ovOf env[i]? = some o) ∧ ItsOk F env σ its r
def tR (W : WX) (r : Env → Out (List It)) : TA := fun σ H Q => ∃ H0 F env, c.Good H0 F env σ H ∧ Res c W H0 F env σ (r env) fun its e F' H' => ∀ vs, ItsOk c F' e σ its vs → Q vs H'
end
section
variable {c : Kc} {W : WX} {X : Cx} {H0 F F' H H' : Hp} {env env' : Env} {σ σ' : L2.St} {Q : VK}
theorem ovOf_le {env' : Env} (l : EnvLe env env') {i : Nat} {o : OV} (h : ovOf env'[i]? = some o) : ∃ o, ovOf env[i]? = some o := by
  cases e : env'[i]? with
  | none => rw [e] at h; cases h
  | some sv =>
    rw [e] at h
    obtain ⟨t, e1, k⟩ := l.back e
    rw [e1]
    cases t with
    | un => cases k; cases h
    | dat d => cases k; cases h
    | own o => exact ⟨o, rfl⟩
    | bor o => exact ⟨o, rfl⟩
def nilR (e : Env) : Out (List It) := .ok [] e
def consRd (ra : Env → Out D) (rr : Env → Out (List It)) (e : Env) : Out (List It) := (ra e).bind fun x e1 => (rr e1).bind fun xs e2 => .ok (.d x :: xs) e2
/-- an own object by its name: it must be one yet when the call is made -/
def consRr (i : Nat) (rr : Env → Out (List It)) (e : Env) : Out (List It) := match ovOf e[i]? with
  | none => .no
  | some _ => (rr e).bind fun xs e2 => match ovOf e2[i]? with
    | none => .no
    | some _ => .ok (.r i :: xs) e2
theorem tR_nil : PA X [] (tR c W nilR) := pa_nil.imp fun σ H Q ⟨H0, F, env, g, q⟩ => q.ret g [] rfl
theorem tR_d {e : Expr} {es : List Expr} {ra : Env → Out D} {rr : Env → Out (List It)} (h : PA X (e :: es) (tCons (tD c W ra) (tR c W rr))) : PA X (e :: es) (tR c W (consRd ra rr)) := h.imp fun σ H Q ⟨H0, F, env, g, q⟩ =>
  ⟨H0, F, env, g, q.seq fun x e1 F1 H1 s1 q1 v hv => ⟨H0, F1, e1, s1.good, q1.seq fun xs e2 F2 H2 s2 q2 vs hvs => q2.ret s2.good (v :: vs) ⟨v, vs, rfl, Rp.mono s2.same _ _ hv, hvs⟩⟩⟩
theorem tR_r {e : Expr} {es : List Expr} {i : Nat} {rr : Env → Out (List It)} (h : PA X (e :: es) (tCons (tVar i) (tR c W rr))) : PA X (e :: es) (tR c W (consRr i rr)) := h.imp fun σ H Q ⟨H0, F, env, g, q⟩ => by
  unfold consRr at q
  split at q
  · exact q.elim
  · rename_i o eo
    have ha : ∃ v, σ[i]? = some (some v) := by
      cases e : env[i]? with
      | none => rw [e] at eo; cases eo
      | some sv =>
        rw [e] at eo
        have so : sv.isO = true := by cases sv <;> first | rfl | cases eo
        obtain ⟨a, _, _, h1, _⟩ := g.at_own e so
        exact ⟨_, h1⟩
    obtain ⟨v, ha⟩ := ha
    refine ⟨v, ha, H0, F, env, g, q.seq fun xs e2 F2 H2 s2 q2 vs hvs => ?_⟩
    split at q2
    · exact q2.elim
    · rename_i o2 eo2
      exact q2.ret s2.good (v :: vs) ⟨v, vs, rfl, ha, ⟨o2, eo2⟩, hvs⟩
/-- keywords' values, data alone -/
theorem _root_.L2.PK.imp {X : Cx} {e : List Keyword} {t t' : TA} (h : PK X e t) (i : ∀ σ H Q, t' σ H Q → t σ H Q) : PK X e t' := ⟨fun pos pins s σ H Q I q => h.run pos pins s σ H Q I (i σ H Q q)⟩
theorem tK_nil : PK X [] (tR c W nilR) := pk_nil.imp fun σ H Q ⟨H0, F, env, g, q⟩ => q.ret g [] rfl
theorem tK_d {k : Keyword} {ks : List Keyword} {ra : Env → Out D} {rr : Env → Out (List It)} (h : PK X (k :: ks) (tCons (tD c W ra) (tR c W rr))) : PK X (k :: ks) (tR c W (consRd ra rr)) := h.imp fun σ H Q ⟨H0, F, env, g, q⟩ =>
  ⟨H0, F, env, g, q.seq fun x e1 F1 H1 s1 q1 v hv => ⟨H0, F1, e1, s1.good, q1.seq fun xs e2 F2 H2 s2 q2 vs hvs => q2.ret s2.good (v :: vs) ⟨v, vs, rfl, Rp.mono s2.same _ _ hv, hvs⟩⟩⟩

/-- what the def is handed -/
def svsOf (e : Env) : List It → List SV
  | [] => []
  | .d x :: r => .dat x :: svsOf e r
  | .r i :: r => (match ovOf e[i]? with | some o => SV.bor o | none => .un) :: svsOf e r
def refsOf : List It → List Nat
  | [] => []
  | .d _ :: r => refsOf r
  | .r i :: r => i :: refsOf r
/-- what it leaves in the own objects -/
def putBack : List It → List SV → Env → Env
  | .d _ :: r, _ :: s, e => putBack r s e
  | .r i :: r, .bor o :: s, e => putBack r s (match putOv i o e with | some e' => e' | none => e)
  | .r _ :: r, _ :: s, e => putBack r s e
  | _, _, e => e
def nodupB (l : List Nat) : Bool := match l with
  | [] => true
  | x :: r => !r.contains x && nodupB r
def fnCall (fn : List SV → Out D) (its : List It) (e : Env) : Out D := if nodupB (refsOf its) = true then (match fn (svsOf e its) with
    | .no => .no
    | .ok d svs' => .ok d (putBack its svs' e)
    | .ex x svs' => .ex x (putBack its svs' e)) else .no
theorem nodupB_iff : ∀ {l : List Nat}, nodupB l = true → l.Nodup
  | [], _ => List.nodup_nil
  | x :: r, h => by
    simp only [nodupB, Bool.and_eq_true, Bool.not_eq_true'] at h
    refine List.nodup_cons.mpr ⟨fun m => ?_, nodupB_iff h.2⟩
    have := List.contains_iff_mem.mpr m
    rw [h.1] at this; cases this
theorem its_len : ∀ {its : List It} {vs : List V}, ItsOk c F env σ its vs → vs.length = its.length
  | [], _, h => by rw [show _ = [] from h]; rfl
  | .d _ :: its, _, ⟨v, r, e, _, t⟩ => by rw [e]; simp [its_len t]
  | .r _ :: its, _, ⟨v, r, e, _, _, t⟩ => by rw [e]; simp [its_len t]
theorem svs_len (e : Env) : ∀ its : List It, (svsOf e its).length = its.length
  | [] => rfl
  | .d _ :: r => by simp [svsOf, svs_len e r]
  | .r _ :: r => by simp [svsOf, svs_len e r]
theorem svs_noOwn (e : Env) : ∀ its : List It, noOwn (svsOf e its) = true
  | [] => rfl
  | .d _ :: r => svs_noOwn e r
  | .r i :: r => by
    have := svs_noOwn e r
    simp only [svsOf, noOwn, List.all_cons, Bool.and_eq_true] at this ⊢
    refine ⟨?_, this⟩
    cases ovOf e[i]? <;> rfl
/-- the k-th argument -/
theorem its_at : ∀ {its : List It} {vs : List V} {k : Nat} {it : It}, ItsOk c F env σ its vs → its[k]? = some it → ∃ v, vs[k]? = some v ∧ match it with
    | .d x => Rp c.K c.cm F x v ∧ (svsOf env its)[k]? = some (.dat x)
    | .r i => σ[i]? = some (some v) ∧ ∃ o, ovOf env[i]? = some o ∧ (svsOf env its)[k]? = some (.bor o)
  | [], _, k, _, _, e => by simp at e
  | .d x :: its, _, 0, it, ⟨v, r, e, h, t⟩, e1 => by simp at e1; subst e1; subst e; exact ⟨v, rfl, h, rfl⟩
  | .r i :: its, _, 0, it, ⟨v, r, e, h, ⟨o, ho⟩, t⟩, e1 => by simp at e1; subst e1; subst e; exact ⟨v, rfl, h, o, ho, by simp [svsOf, ho]⟩
  | .d x :: its, _, k + 1, it, ⟨v, r, e, h, t⟩, e1 => by
    subst e
    obtain ⟨w, h1, h2⟩ := its_at t (k := k) (it := it) (by simpa using e1)
    exact ⟨w, by simpa using h1, by cases it <;> simpa [svsOf] using h2⟩
  | .r i :: its, _, k + 1, it, ⟨v, r, e, h, _, t⟩, e1 => by
    subst e
    obtain ⟨w, h1, h2⟩ := its_at t (k := k) (it := it) (by simpa using e1)
    exact ⟨w, by simpa using h1, by cases it <;> simpa [svsOf] using h2⟩
theorem refs_at : ∀ {its : List It} {i j k l : Nat}, (refsOf its).Nodup → its[k]? = some (.r i) → its[l]? = some (.r j) → k ≠ l → i ≠ j
  | [], _, _, k, _, _, e, _, _ => by simp at e
  | it :: its, i, j, k, l, nd, e1, e2, hn => by
    have mem : ∀ {its : List It} {i k : Nat}, its[k]? = some (.r i) → i ∈ refsOf its := fun {its} => by
      induction its with
      | nil => intro i k e; simp at e
      | cons t its ih =>
        intro i k e
        cases k with
        | zero => simp at e; subst e; exact List.mem_cons_self
        | succ k =>
          have := ih (i := i) (k := k) (by simpa using e)
          cases t with
          | d x => exact this
          | r x => exact List.mem_cons_of_mem _ this
    have tl : (refsOf its).Nodup := by cases it with
      | d x => exact nd
      | r x => exact (List.nodup_cons.mp nd).2
    cases k with
    | zero =>
      cases l with
      | zero => exact absurd rfl hn
      | succ l =>
        simp at e1; subst e1
        have := mem (its := its) (i := j) (k := l) (by simpa using e2)
        exact fun z => (List.nodup_cons.mp nd).1 (z ▸ this)
    | succ k =>
      cases l with
      | zero =>
        simp at e2; subst e2
        have := mem (its := its) (i := i) (k := k) (by simpa using e1)
        exact fun z => (List.nodup_cons.mp nd).1 (z ▸ this)
      | succ l => exact refs_at tl (by simpa using e1) (by simpa using e2) fun z => hn (by rw [z])
/-- the callee's slots are good -/
theorem Good.handed {its : List It} {vs : List V} (g : c.Good H0 F env σ H) (h : ItsOk c F env σ its vs) (nd : (refsOf its).Nodup) : c.Good H F (svsOf env its) (vs.map some) H := by
  have hl := its_len h
  have look : ∀ {k : Nat} {sv : SV}, (svsOf env its)[k]? = some sv → ∃ it v, its[k]? = some it ∧ vs[k]? = some v ∧ (vs.map some)[k]? = some (some v) ∧ match it with
      | .d x => Rp c.K c.cm F x v ∧ sv = .dat x
      | .r i => σ[i]? = some (some v) ∧ ∃ o, ovOf env[i]? = some o ∧ sv = .bor o := fun {k sv} e => by
    have hk : k < its.length := by rw [← svs_len env its]; exact (List.getElem?_eq_some_iff.mp e).1
    obtain ⟨v, h1, h2⟩ := its_at h (k := k) (it := its[k]) (by simp [hk])
    refine ⟨its[k], v, by simp [hk], h1, by simp [h1], ?_⟩
    cases hit : its[k] with
    | d x => rw [hit] at h2; refine ⟨h2.1, ?_⟩; rw [e] at h2; exact Option.some.inj h2.2
    | r i =>
      rw [hit] at h2
      obtain ⟨q1, o, q2, q3⟩ := h2
      rw [e] at q3
      exact ⟨q1, o, q2, Option.some.inj q3⟩
  have own : ∀ {i : Nat} {o : OV} {v : V}, ovOf env[i]? = some o → σ[i]? = some (some v) → ∃ a sv, v = .ref a ∧ env[i]? = some sv ∧ sv.isO = true ∧ F a = none ∧ RO c.K c.cm F H a o := fun {i o v} e hs => by
    cases e1 : env[i]? with
    | none => rw [e1] at e; cases e
    | some sv =>
      rw [e1] at e
      have so : sv.isO = true := by cases sv <;> first | rfl | cases e
      obtain ⟨a, ov, k, h1, h2, h3⟩ := g.at_own e1 so
      rw [hs] at h1; cases h1
      refine ⟨a, sv, rfl, rfl, so, h2, ?_⟩
      rcases k with rfl | rfl <;> (cases e; exact h3)
  refine ⟨g.le, by simp [svs_len, hl], fun k sv e => ?_, fun k l sv tv a n e1 e2 o1 o2 r1 => ?_, fun a o e _ => e, fun k o a e _ => ?_⟩
  · obtain ⟨it, v, q1, q2, q3, q4⟩ := look e
    rw [q3]
    cases it with
    | d x => obtain ⟨q4, rfl⟩ := q4; exact ⟨v, rfl, q4⟩
    | r i =>
      obtain ⟨q4, o, q5, rfl⟩ := q4
      obtain ⟨a, sv, rfl, _, _, w1, w2⟩ := own q5 q4
      exact ⟨a, rfl, w1, w2⟩
  · obtain ⟨it1, v1, p1, p2, p3, p4⟩ := look e1
    obtain ⟨it2, v2, q1, q2, q3, q4⟩ := look e2
    cases it1 with
    | d x => obtain ⟨_, rfl⟩ := p4; cases o1
    | r i =>
      cases it2 with
      | d x => obtain ⟨_, rfl⟩ := q4; cases o2
      | r j =>
        obtain ⟨p4, o, p5, rfl⟩ := p4
        obtain ⟨q4, o', q5, rfl⟩ := q4
        obtain ⟨a1, s1, hv1, w1, w2, _, _⟩ := own p5 p4
        obtain ⟨a2, s2, hv2, z1, z2, _, _⟩ := own q5 q4
        have hij := refs_at nd p1 q1 n
        rw [p3] at r1; rw [q3]
        intro hz
        have r1' := Option.some.inj (Option.some.inj r1)
        have r2' := Option.some.inj (Option.some.inj hz)
        rw [r1'] at p4; rw [r2'] at q4
        exact g.sep i j s1 s2 a hij w1 z1 w2 z2 p4 q4
  · obtain ⟨it, v, _, _, _, q4⟩ := look e
    cases it with
    | d x => obtain ⟨_, q⟩ := q4; cases q
    | r i => obtain ⟨_, _, _, q⟩ := q4; cases q
theorem putBack_at : ∀ {its : List It} {svs : List SV} {e : Env} {j : Nat} {tv : SV}, (refsOf its).Nodup → svs.length = its.length →
    (∀ (k i : Nat), its[k]? = some (.r i) → (∃ o, svs[k]? = some (.bor o)) ∧ ∃ o, ovOf e[i]? = some o) → (putBack its svs e)[j]? = some tv →
    (e[j]? = some tv ∧ ∀ k : Nat, its[k]? ≠ some (.r j)) ∨ ∃ (k : Nat) (o : OV) (s : SV), its[k]? = some (.r j) ∧ svs[k]? = some (.bor o) ∧ e[j]? = some s ∧ ((∃ x, s = .own x ∧ tv = .own o) ∨ ∃ x, s = .bor x ∧ tv = .bor o)
  | [], svs, e, j, tv, _, _, _, h => .inl ⟨by simpa [putBack] using h, fun k => by simp⟩
  | .d x :: its, [], e, j, tv, _, hl, _, _ => by simp at hl
  | .r x :: its, [], e, j, tv, _, hl, _, _ => by simp at hl
  | .d x :: its, s :: svs, e, j, tv, nd, hl, hk, h => by
    have h' : (putBack its svs e)[j]? = some tv := by cases s <;> simpa [putBack] using h
    rcases putBack_at (its := its) (svs := svs) nd (by simpa using hl) (fun k i q => by simpa using hk (k + 1) i (by simpa using q)) h' with ⟨h1, h2⟩ | ⟨k, o, s', h1, h2, h3, h4⟩
    · refine .inl ⟨h1, fun k => ?_⟩
      cases k with
      | zero => simp
      | succ k => simpa using h2 k
    · exact .inr ⟨k + 1, o, s', by simpa using h1, by simpa using h2, h3, h4⟩
  | .r i :: its, s :: svs, e, j, tv, nd, hl, hk, h => by
    obtain ⟨⟨o, eo⟩, ⟨o1, eo1⟩⟩ := hk 0 i rfl
    obtain rfl : s = .bor o := by simpa using eo
    have nd' : (refsOf its).Nodup := (List.nodup_cons.mp nd).2
    have nm : i ∉ refsOf its := (List.nodup_cons.mp nd).1
    have mem : ∀ {its : List It} {i k : Nat}, its[k]? = some (.r i) → i ∈ refsOf its := fun {its} => by
      induction its with
      | nil => intro i k e; simp at e
      | cons t its ih =>
        intro i k e
        cases k with
        | zero => simp at e; subst e; exact List.mem_cons_self
        | succ k =>
          have := ih (i := i) (k := k) (by simpa using e)
          cases t with
          | d x => exact this
          | r x => exact List.mem_cons_of_mem _ this
    obtain ⟨s0, e0, k0⟩ : ∃ s0, e[i]? = some s0 ∧ ((∃ x, s0 = .own x) ∨ ∃ x, s0 = .bor x) := by
      cases e1 : e[i]? with
      | none => rw [e1] at eo1; cases eo1
      | some sv =>
        rw [e1] at eo1
        cases sv with
        | un => cases eo1
        | dat d => cases eo1
        | own x => exact ⟨_, rfl, .inl ⟨x, rfl⟩⟩
        | bor x => exact ⟨_, rfl, .inr ⟨x, rfl⟩⟩
    obtain ⟨sn, hp, kn⟩ : ∃ sn, putOv i o e = some (e.set i sn) ∧ ((∃ x, s0 = .own x ∧ sn = .own o) ∨ ∃ x, s0 = .bor x ∧ sn = .bor o) := by
      unfold putOv
      rcases k0 with ⟨x, rfl⟩ | ⟨x, rfl⟩
      · rw [e0]; exact ⟨_, rfl, .inl ⟨x, rfl, rfl⟩⟩
      · rw [e0]; exact ⟨_, rfl, .inr ⟨x, rfl, rfl⟩⟩
    have hi : i < e.length := (List.getElem?_eq_some_iff.mp e0).1
    have h' : (putBack its svs (e.set i sn))[j]? = some tv := by simpa only [putBack, hp] using h
    rcases putBack_at (its := its) (svs := svs) nd' (by simpa using hl) (fun k i' q => by
        refine ⟨by simpa using (hk (k + 1) i' (by simpa using q)).1, ?_⟩
        have : i' ≠ i := fun z => nm (z ▸ mem q)
        rw [List.getElem?_set_ne (Ne.symm this)]
        exact (hk (k + 1) i' (by simpa using q)).2) h' with ⟨h1, h2⟩ | ⟨k, o', s', h1, h2, h3, h4⟩
    · by_cases hj : j = i
      · subst hj
        rw [List.getElem?_set_self hi] at h1; cases h1
        exact .inr ⟨0, o, s0, rfl, rfl, e0, kn⟩
      · rw [List.getElem?_set_ne (Ne.symm hj)] at h1
        refine .inl ⟨h1, fun k => ?_⟩
        cases k with
        | zero => simpa using fun z => hj z.symm
        | succ k => simpa using h2 k
    · have : j ≠ i := fun z => nm (z ▸ mem h1)
      rw [List.getElem?_set_ne (Ne.symm this)] at h3
      exact .inr ⟨k + 1, o', s', by simpa using h1, by simpa using h2, h3, h4⟩
theorem putOv_len {i : Nat} {o : OV} {e e' : Env} (h : putOv i o e = some e') : e'.length = e.length := by
  unfold putOv at h
  split at h <;> first | (cases h; simp) | cases h
theorem putBack_len : ∀ (its : List It) (svs : List SV) (e : Env), (putBack its svs e).length = e.length
  | [], _, _ => rfl
  | .d _ :: _, [], _ => rfl
  | .r _ :: _, [], _ => rfl
  | .d _ :: its, s :: svs, e => by cases s <;> simpa [putBack] using putBack_len its svs e
  | .r i :: its, s :: svs, e => by
    cases s with
    | bor o =>
      simp only [putBack]
      rw [putBack_len its svs]
      cases h : putOv i o e with
      | none => rfl
      | some e' => exact putOv_len h
    | _ => simpa [putBack] using putBack_len its svs e
/-- the caller behind a call -/
theorem Good.called {its : List It} {vs : List V} {svs' : List SV} (g : c.Good H0 F env σ H) (h : ItsOk c F env σ its vs) (nd : (refsOf its).Nodup)
    (st : StepS c H F (svsOf env its) (vs.map some) F' svs' (vs.map some) H') : Step c H0 F env σ F' (putBack its svs' env) H' := by
  have hl := its_len h
  have hk : ∀ (k i : Nat), its[k]? = some (.r i) → (∃ o, svs'[k]? = some (.bor o)) ∧ ∃ o, ovOf env[i]? = some o := fun k i e => by
    obtain ⟨v, h1, h2⟩ := its_at h e
    obtain ⟨q1, o, q2, q3⟩ := h2
    exact ⟨(st.bor k o q3).1, o, q2⟩
  have look : ∀ {j : Nat} {tv : SV}, (putBack its svs' env)[j]? = some tv → (env[j]? = some tv ∧ ∀ k : Nat, its[k]? ≠ some (.r j)) ∨ ∃ (k : Nat) (o : OV) (s : SV), its[k]? = some (.r j) ∧ svs'[k]? = some (.bor o) ∧ env[j]? = some s ∧ ((∃ x, s = .own x ∧ tv = .own o) ∨ ∃ x, s = .bor x ∧ tv = .bor o) :=
    fun {j tv} e => putBack_at nd (by rw [st.len, svs_len]) hk e
  have orig : ∀ {j : Nat} {tv : SV}, (putBack its svs' env)[j]? = some tv → ∃ s, env[j]? = some s ∧ s.isO = tv.isO ∧ s.isB = tv.isB ∧ SvLe s tv := fun {j tv} e => by
    rcases look e with ⟨h1, _⟩ | ⟨k, o, s, _, _, h1, ⟨x, rfl, rfl⟩ | ⟨x, rfl, rfl⟩⟩
    · exact ⟨tv, h1, rfl, rfl, SvLe.refl _⟩
    · exact ⟨_, h1, rfl, rfl, .inl ⟨_, rfl⟩⟩
    · exact ⟨_, h1, rfl, rfl, ⟨_, rfl⟩⟩
  -- a slot of the callee's that is borrowed
  have handed : ∀ {k : Nat} {sv : SV} {a : Addr}, svs'[k]? = some sv → sv.isB = true → (vs.map some)[k]? = some (some (.ref a)) → ∃ i o, its[k]? = some (.r i) ∧ σ[i]? = some (some (.ref a)) ∧ ovOf env[i]? = some o := fun {k sv a} e b hv => by
    obtain ⟨ox, rfl⟩ : ∃ o, sv = .bor o := by cases sv <;> first | exact ⟨_, rfl⟩ | cases b
    obtain ⟨o', q1⟩ := st.rob k _ e
    have hk : k < its.length := by rw [← svs_len env its]; exact (List.getElem?_eq_some_iff.mp q1).1
    obtain ⟨v, w1, w2⟩ := its_at h (k := k) (it := its[k]) (by simp [hk])
    cases hit : its[k] with
    | d x => rw [hit] at w2; rw [q1] at w2; cases w2.2
    | r i =>
      rw [hit] at w2
      obtain ⟨z1, o, z2, z3⟩ := w2
      refine ⟨i, o, by rw [List.getElem?_eq_getElem hk, hit], ?_, z2⟩
      rw [z1]
      rw [List.getElem?_map, w1] at hv
      exact congrArg some (by simpa using hv)
  have isO_of : ∀ {i : Nat} {o : OV}, ovOf env[i]? = some o → ∃ s, env[i]? = some s ∧ (s = .own o ∨ s = .bor o) := fun {i o} e => by
    cases e1 : env[i]? with
    | none => rw [e1] at e; cases e
    | some sv =>
      rw [e1] at e
      cases sv with
      | un => cases e
      | dat d => cases e
      | own x => cases e; exact ⟨_, rfl, .inl rfl⟩
      | bor x => cases e; exact ⟨_, rfl, .inr rfl⟩
  have someH : ∀ {a : Addr}, H0 a ≠ none → H a ≠ none := fun {a} n z => by
    cases e0 : H0 a with
    | none => exact n e0
    | some u =>
      by_cases hb : ∃ (i : Nat) (sv : SV), env[i]? = some sv ∧ sv.isB = true ∧ σ[i]? = some (some (.ref a))
      · obtain ⟨i, sv, e, sb, ha⟩ := hb
        obtain ⟨u, hu⟩ := g.bor_some e (SV.isO_of_isB sb) ha
        rw [z] at hu; cases hu
      · rw [g.frame a u e0 fun i sv e sb q => hb ⟨i, sv, e, sb, q⟩] at z; cases z
  refine ⟨st.same, ⟨putBack_len _ _ _, fun i s e => ?_⟩, ⟨st.good.le, by rw [putBack_len]; exact g.len, fun j tv e => ?_, fun i j sv tv a n e1 e2 o1 o2 r => ?_, fun a o e q => ?_, fun i o a e ha => ?_⟩, fun a o n e => st.old a o (someH n) e⟩
  · have hi : i < (putBack its svs' env).length := by rw [putBack_len]; exact (List.getElem?_eq_some_iff.mp e).1
    obtain ⟨s', w1, _, _, w2⟩ := orig (j := i) (tv := (putBack its svs' env)[i]) (by simp [hi])
    rw [e] at w1; cases w1
    exact ⟨_, by simp [hi], w2⟩
  · rcases look e with ⟨h1, h2⟩ | ⟨k, o, s, h1, h2, h3, h4⟩
    · have key : ∀ {a : Addr} {o : OV}, tv.isO = true → σ[j]? = some (some (.ref a)) → F a = none → RO c.K c.cm F H a o → F' a = none ∧ RO c.K c.cm F' H' a o := fun {a o} so ha hf r => by
        obtain ⟨u, hu⟩ := r.some
        refine ⟨?_, r.mono st.same ?_⟩
        · cases z : F' a with
          | none => rfl
          | some w =>
            have := st.old a w (by rw [hu]; simp) z
            rw [hf] at this; cases this
        · rw [hu]
          refine st.good.frame a u hu fun k sv q1 q2 q3 => ?_
          obtain ⟨i, o', w1, w2, w3⟩ := handed q1 q2 q3
          obtain ⟨s', w4, w5⟩ := isO_of w3
          refine g.sep i j s' tv a (fun z => h2 k (z ▸ w1)) w4 h1 (by rcases w5 with rfl | rfl <;> rfl) so w2 ha
      have hs := g.slot j tv h1
      cases tv with
      | un => trivial
      | dat d => obtain ⟨v, q1, q2⟩ := hs; exact ⟨v, q1, Rp.mono st.same _ _ q2⟩
      | own o => obtain ⟨a, q1, q2, q3⟩ := hs; exact ⟨a, q1, key rfl q1 q2 q3⟩
      | bor o => obtain ⟨a, q1, q2, q3⟩ := hs; exact ⟨a, q1, key rfl q1 q2 q3⟩
    · obtain ⟨a, q1, q2, q3⟩ := st.good.slot k _ h2
      obtain ⟨v, w1, w2⟩ := its_at h h1
      obtain ⟨w2, _⟩ := w2
      rw [List.getElem?_map, w1] at q1
      have : v = .ref a := by simpa using q1
      subst this
      rcases h4 with ⟨x, rfl, rfl⟩ | ⟨x, rfl, rfl⟩ <;> exact ⟨a, w2, q2, q3⟩
  · obtain ⟨s1, w1, k1, _, _⟩ := orig e1
    obtain ⟨s2, w2, k2, _, _⟩ := orig e2
    exact g.sep i j s1 s2 a n w1 w2 (k1.trans o1) (k2.trans o2) r
  · have back : ∀ (i : Nat) sv, env[i]? = some sv → sv.isB = true → σ[i]? ≠ some (some (.ref a)) := fun i sv e1 b => by
      have hi : i < (putBack its svs' env).length := by rw [putBack_len]; exact (List.getElem?_eq_some_iff.mp e1).1
      obtain ⟨s', w1, _, w3, _⟩ := orig (j := i) (tv := (putBack its svs' env)[i]) (by simp [hi])
      rw [e1] at w1; cases w1
      exact q i _ (by simp [hi]) (w3 ▸ b)
    have h1 := g.frame a o e back
    refine st.good.frame a o h1 fun k sv q1 q2 q3 => ?_
    obtain ⟨i, o', w1, w2, w3⟩ := handed q1 q2 q3
    obtain ⟨s', w4, w5⟩ := isO_of w3
    rcases w5 with rfl | rfl
    · have := g.fresh i _ a w4 w2
      rw [e] at this; cases this
    · exact back i _ w4 rfl w2
  · obtain ⟨s', w1, w2, w3, w4⟩ := orig e
    cases s' with
    | own x => exact g.fresh i x a w1 ha
    | un => cases w2
    | dat d => cases w2
    | bor x => cases w3
/-- the call of a def by its worth -/
theorem Good.call {its : List It} {vs : List V} {fn : List SV → Out D} {k : D → Env → Hp → Hp → Prop} {W : WX} (g : c.Good H0 F env σ H) (h : ItsOk c F env σ its vs)
    (q : Res c W H0 F env σ (fnCall fn its env) k) (hk : ∀ d e F' H', k d e F' H' → ∀ v, Rp c.K c.cm F' d v → Q v H') : spF c fn vs H Q (W σ) := by
  unfold fnCall at q
  split at q
  · rename_i nd
    have nd := nodupB_iff nd
    refine ⟨F, svsOf env its, g.handed h nd, svs_noOwn _ _, ?_⟩
    cases e : fn (svsOf env its) with
    | no => rw [e] at q; exact q
    | ok d svs' =>
      rw [e] at q
      exact fun F' H' st v hv => hk _ _ _ _ (q F' H' (g.called h nd st)) v hv
    | ex x svs' =>
      rw [e] at q
      exact fun F' H' cl dx st hx => q F' H' cl dx (g.called h nd st) hx
  · exact q.elim
end
end DL

/-! ==== DG -/
/-! DG: defs that are called where no repr is under way (so that they may call repr) -/
namespace DL
open PySem PySem.Spec PyProof.Rows L2

/-- FnOk, asked only where no repr is under way -/
structure FnG (P : Program) (w : World) (K : PySem.W.Frag) (mg : Str → Option Value) (base : Heap) (CX : CXT) (k : Nat) (f : Addr) (fd : FuncData) (ps : List Str) (sp : L2.Sp) : Prop where
  len : ∀ xs H Q E, sp xs H Q E → xs.length = ps.length
  run : ∀ (A : Around) (outer : List PySem.Env) (s : Shared) (H : Hp) (ar : Args) (us : List Value) (xs : List V) (Q : VK) (E : XK), Room k A → A.guards = some [] → Env0 P w K mg base A outer s H → BindsTo s fd ar (ps.zip us) → Vals xs us → sp xs H Q E →
    codeAny (model P w) A (.call (.ref f) ar) (CR CX outer P w H s Q E) s
section
variable {P : Program} {w : World} {K : PySem.W.Frag} {mg : Str → Option Value} {base : Heap} {CX : CXT} {j k : Nat} {f : Addr} {fd : FuncData} {ps : List Str} {sp sp' : L2.Sp}
theorem FnG.of (F : FnOk P w K mg base CX k f fd ps sp) : FnG P w K mg base CX k f fd ps sp := ⟨F.len, fun A outer s H ar us xs Q E hr _ => F.run A outer s H ar us xs Q E hr⟩
theorem FnG.imp (F : FnG P w K mg base CX k f fd ps sp) (h : ∀ xs H Q E, sp' xs H Q E → sp xs H Q E) : FnG P w K mg base CX k f fd ps sp' :=
  ⟨fun xs H Q E q => F.len xs H Q E (h _ _ _ _ q), fun A outer s H ar us xs Q E hr hg he hb hv q => F.run A outer s H ar us xs Q E hr hg he hb hv (h _ _ _ _ q)⟩
/-- a def's body gives it -/
theorem fnG_of {x qual : Str} {pa : Arguments} {body : List Stmt} {sc : Scope} {dV kV doc pm cdv ct oc : Value} {an od : Option Addr} {sl : Array (Option Value)} {N : List Str}
    (lk : K.lookup f = some ⟨oc, od, .func (PySem.W.fnOf x qual pa body sc dV kV doc pm an cdv ct), sl⟩) (hcd : PySem.W.codeIn K cdv qual = true) (S : FnScope N ps sc) (len : ∀ xs H Q E, sp xs H Q E → xs.length = ps.length)
    (hb : ∀ (A : Around) (outer : List PySem.Env) (s : Shared) (H : Hp) (xs : List V) (Q : VK) (E : XK), Room k (A.deeper (envOfC qual sc s.heap.objs.size f cdv)) → A.guards = some [] → sp xs H Q E →
      ∃ t, PSs (cxOf CX P w K mg base N qual sc f cdv A outer s H E) body t ∧ t { nx := fun _ H' => Q .non H', rt := Q } (L2.start N xs) H) :
    FnG P w K mg base CX (k + 1) f (PySem.W.fnOf x qual pa body sc dV kV doc pm an cdv ct) ps sp := by
  refine ⟨len, fun A outer s H ar us xs Q E hr hg e0 hbd rv q => ?_⟩
  have KI : K.In s.heap := e0.mod.kin.keeps fun b o e => (e0.bs b o e).1
  have nl : s.heap.NoLimit := e0.mod.nolimit.keeps fun b o e => (e0.bs b o e).1
  have hk : ∀ y ∈ ps.zip us, sc.names.lookup y.1 = some .local ∨ (sc.names.lookup y.1 = some .cell ∧ ((cellsFrom (s.heap.objs.size + 1) sc.names []).lookup y.1).isSome = true) := fun ⟨m, v⟩ hy => (S.par m (List.of_mem_zip hy).1).imp id fun z => ⟨z, PySem.W.cellsFrom_some _ _ _ (.inl z)⟩
  refine codeAny_call_function hr.depth (KI _ _ lk) rfl S.co S.gen rfl (PySem.W.codeRec_of KI hcd) (hbd _ _ _ _ ?_)
  refine wpAny_newFunctionEnv_cells S.kind hk fun env he s1 x1 => ?_
  subst he
  refine ⟨nl.keeps x1.toInCall.keep, codeAny_func ?_⟩
  obtain ⟨t, ht, hq⟩ := hb A outer s H xs Q E (hr.deeper _) hg q
  have J : Inv (cxOf CX P w K mg base N qual sc f cdv A outer s H E) [] (L2.start N xs) H s1 := inv_start S hr.hd e0 (len _ _ _ _ q) rv x1
  refine wpAny_mono (ht.run [] s1 (L2.start N xs) H _ J hq) (fun fl s2 hs => ?_) fun e s2 z => z
  match fl, hs with
  | .ret u, ⟨v, σ1, H1, J1, r1, q1⟩ => exact ⟨v, H1, J1.os, J1.bare, J1.base, J1.hok, r1, q1⟩
  | .next, ⟨σ1, H1, J1, q1⟩ => exact ⟨V.non, H1, J1.os, J1.bare, J1.base, J1.hok, rfl, q1⟩
  | .brk, hs => exact absurd hs (by rintro ⟨σ1, H1, _, q1⟩; exact q1)
  | .cont, hs => exact absurd hs (by rintro ⟨σ1, H1, _, q1⟩; exact q1)
theorem fun_okG {x qual : Str} {st : Stmt} {N : List Str} (F : Fun K x qual st f fd) (S : FnScope N ps (defScope st)) (len : ∀ xs H Q E, sp xs H Q E → xs.length = ps.length)
    (hb : ∀ (cdv : Value) (A : Around) (outer : List PySem.Env) (s : Shared) (H : Hp) (xs : List V) (Q : VK) (E : XK), Room k (A.deeper (envOfC qual (defScope st) s.heap.objs.size f cdv)) → A.guards = some [] → sp xs H Q E →
      ∃ t, PSs (cxOf CX0 P w K mg base N qual (defScope st) f cdv A outer s H E).nox (defBody st) t ∧ t { nx := fun _ H' => Q .non H', rt := Q } (L2.start N xs) H) : FnG P w K mg base CX0 (k + 1) f fd ps sp := by
  obtain ⟨oc, od, kV, doc, pm, an, cdv, ct, sl, rfl, lk, hcd⟩ := F.ex
  refine fnG_of lk hcd S len fun A outer s H xs Q E hr hg q => ?_
  obtain ⟨t, h1, h2⟩ := hb cdv A outer s H xs Q E hr hg q
  exact ⟨t, h1.nox, h2⟩
/-- .. a def with defaults -/
theorem funD_okG {x qual : Str} {pa : Arguments} {body : List Stmt} {sc : Scope} {dvs : List V} {kws : List (Str × V)} {N : List Str} (F : FunD K x qual pa body sc dvs kws f fd) (S : FnScope N ps sc) (len : ∀ xs H Q E, sp xs H Q E → xs.length = ps.length)
    (hb : ∀ (cdv : Value) (A : Around) (outer : List PySem.Env) (s : Shared) (H : Hp) (xs : List V) (Q : VK) (E : XK), Room k (A.deeper (envOfC qual sc s.heap.objs.size f cdv)) → A.guards = some [] → sp xs H Q E →
      ∃ t, PSs (cxOf CX0 P w K mg base N qual sc f cdv A outer s H E).nox body t ∧ t { nx := fun _ H' => Q .non H', rt := Q } (L2.start N xs) H) : FnG P w K mg base CX0 (k + 1) f fd ps sp := by
  obtain ⟨oc, od, dV, kV, doc, pm, an, cdv, ct, sl, rfl, lk, hcd, _, _⟩ := F.ex
  refine fnG_of lk hcd S len fun A outer s H xs Q E hr hg q => ?_
  obtain ⟨t, h1, h2⟩ := hb cdv A outer s H xs Q E hr hg q
  exact ⟨t, h1.nox, h2⟩
end

/-! ### the callee runs -/
section
variable {X : Cx} {CX : CXT} {k n : Nat} {f C : Addr} {fd : FuncData} {ps ks : List Str} {sp : L2.Sp} {E : XK} {ds : List Value} {dvs : List V} {g : List Value → List Value → List Value} {gV : List V → List V → List V}
  {pins : List (Addr × Obj)} {σ : L2.St} {H : Hp} {s : Shared} {Q : VK} {us ws : List Value} {xs zs : List V}
theorem runG_fn (F : FnG X.prog X.w X.K X.mg X.base CX k f fd ps sp) (hr : Room k X.A) (hg : X.A.guards = some []) (hb : Binds X.K fd ps ds) (hd : Vals dvs ds) (hx : Passes CX X E)
    (I : Inv X pins σ H s) (r : Vals xs us) (h : sp (xs ++ dvs) H Q E) : wpAny (model X.prog X.w) X.A (call (.ref f) us) (EP X pins σ Q) X.xe s := by
  have r2 : Vals (xs ++ dvs) (us ++ ds) := r.append hd
  refine wpAny_call (codeAny_mono (F.run X.A X.stack s H ⟨us, []⟩ (us ++ ds) (xs ++ dvs) Q E hr hg I.env0 (hb s us I.kIn (by rw [← r2.length]; exact F.len _ _ _ _ h)) r2 h) fun r s' hq => ?_)
  match r, hq with
  | .error e, hq => exact hx pins σ H s e s' I hq
  | .ok (.ret u), hq => exact I.after hq
  | .ok .next, hq => exact hq.elim
  | .ok .brk, hq => exact hq.elim
  | .ok .cont, hq => exact hq.elim
theorem runG_fnN (F : FnG X.prog X.w X.K X.mg X.base CX k f fd ps sp) (hr : Room k X.A) (hg : X.A.guards = some []) (hb : KBn X.K fd ps n ks g gV) (hx : Passes CX X E)
    (I : Inv X pins σ H s) (r : Vals xs us) (rz : Vals zs ws) (l1 : xs.length = n) (l2 : zs.length = ks.length) (h : sp (gV xs zs) H Q E) : wpAny (model X.prog X.w) X.A (call (.ref f) us (ks.zip ws)) (EP X pins σ Q) X.xe s := by
  refine wpAny_call (codeAny_mono (F.run X.A X.stack s H ⟨us, ks.zip ws⟩ (g us ws) (gV xs zs) Q E hr hg I.env0 (hb.to s us ws I.kIn (r.length.symm.trans l1) (rz.length.symm.trans l2)) (hb.rel r rz) h) fun r s' hq => ?_)
  match r, hq with
  | .error e, hq => exact hx pins σ H s e s' I hq
  | .ok (.ret u), hq => exact I.after hq
  | .ok .next, hq => exact hq.elim
  | .ok .brk, hq => exact hq.elim
  | .ok .cont, hq => exact hq.elim
theorem guards_make {A : Around} {us : List Value} {kw : List (Str × Value)} (h : A.guards = some []) : (A.under (.builtin "type.__call__" ⟨.ref C :: us, kw⟩)).guards = some [] := by
  have e : (Code.builtin "type.__call__" ⟨.ref C :: us, kw⟩).guards = [] := by
    unfold Code.guards
    rw [if_neg]
    simp [Code.isGuard, guardIds]
  unfold Around.under
  rw [e]
  exact h
theorem runG_makeK (M : Mk X.K C f) (F : FnG X.prog X.w X.K X.mg X.base CX k f fd ps sp) (hr : Room (k + 1) X.A) (hg : X.A.guards = some []) (hb : KBn X.K fd ps (n + 1) ks g gV) (hx : Passes CX X E)
    (I : Inv X pins σ H s) (r : Vals xs us) (rz : Vals zs ws) (l1 : xs.length = n) (l2 : zs.length = ks.length)
    (h : ∀ x dx, H x = none → H dx = none → dx ≠ x → sp (gV (.ref x :: xs) zs) (upd (upd H dx (.own x)) x (.ins C dx [])) (fun v H2 => v = .non ∧ Q (.ref x) H2) E) :
    wpAny (model X.prog X.w) X.A (call (.ref C) us (ks.zip ws)) (EP X pins σ Q) X.xe s := by
  generalize hz : s.heap.objs.size = z0
  have hq := h (z0 + 1) z0 (by subst hz; exact I.hok.fresh (Nat.le_succ _)) (by subst hz; exact I.hok.fresh (Nat.le_refl _)) (Nat.ne_of_lt (Nat.lt_succ_self _))
  have I2 := Inv.made (C := C) I
  rw [hz] at I2
  have r1 : Vals (V.ref (z0 + 1) :: xs) (Value.ref (z0 + 1) :: us) := .cons rfl r
  have n1 : (Value.ref (z0 + 1) :: us).length = n + 1 := by simp [← r.length, l1]
  have key := F.run _ X.stack _ _ ⟨Value.ref (z0 + 1) :: us, ks.zip ws⟩ (g (Value.ref (z0 + 1) :: us) ws) _ _ E (hr.make C us (ks.zip ws)) (guards_make hg)
    (I2.env0.make C us (ks.zip ws)) (hb.to _ (Value.ref (z0 + 1) :: us) ws I2.kIn n1 (rz.length.symm.trans l2)) (hb.rel r1 rz) hq
  subst hz
  refine wpAny_call (make_map (f := f) I.kIn M.makes M.init (beq_iff_eq.mp M.fn) (codeAny_mono key fun r s' hq' => ?_))
  match r, hq' with
  | .error e, hq' => exact hx pins σ _ _ e s' I2 hq'
  | .ok (.ret u), hq' =>
    obtain ⟨v, H', I3, rv, ev, q3⟩ := I2.after hq'
    subst ev
    exact ⟨rv, ⟨V.ref (s.heap.objs.size + 1), H', I3, rfl, q3⟩⟩
  | .ok .next, hq' => exact hq'.elim
  | .ok .brk, hq' => exact hq'.elim
  | .ok .cont, hq' => exact hq'.elim
end

/-! ### the law's def is called -/
theorem lawG_call {P : Program} {w : World} {K : PySem.W.Frag} {mg mb : Str → Option Value} {CX : CXT} {k : Nat} {fa a : Addr} {fd : FuncData} {x : Str} {sp : L2.Sp} {s₁ : Shared} {vs : List Value} {ns : List Int}
    (KX : K.In s₁.heap) (hns : s₁.heap.Ns mainGlobals mg) (hb : s₁.heap.Ns builtinsNs mb) (hbb : ∀ x : Str, x ≠ "__name__" → mb x = bootBuiltins x) (hlim : s₁.heap.NoLimit) (hg : s₁.gens = #[])
    (ha : s₁.heap.get? a = some { cls := .type "list", data := .seq vs.toArray }) (hi : IntsAre vs ns) (hl : ns.length ≤ sizeLine) (hr : Room k callerA)
    (F : ∀ base : Heap, K.In base → base.Ns mainGlobals mg → FnG P w K mg base CX k fa fd [x] sp) (hbind : ∀ (s : Shared) (u : Value), BindsTo s fd ⟨[u], []⟩ [(x, u)])
    (hsp : ∀ H : Hp, Only H → SqL K H a (ns.map V.int) → sp [.ref a] H (fun v _ => v = .bl true) fun _ _ _ => False)
    (hCX : ∀ H e s', CX [] H s₁ (fun _ _ _ => False) e s' → False) :
    codeAny (model P w) callerA (.call (.ref fa) ⟨[.ref a], []⟩) (fun r s' => r = .ok (.ret (.bool true)) ∧ OldK s₁.heap s'.heap ∧ s'.os = s₁.os ∧ AllBare s'.gens) s₁ := by
  have rv := vals_ints hi
  have lv := hi.length
  have main : ∀ H : Hp, Only H → SqL K H a (ns.map V.int) → HOk P w H s₁.heap → (∀ b, H b ≠ none → b = a) → (H a ≠ none → K.lookup a = none) →
      codeAny (model P w) callerA (.call (.ref fa) ⟨[.ref a], []⟩) (fun r s' => r = .ok (.ret (.bool true)) ∧ OldK s₁.heap s'.heap ∧ s'.os = s₁.os ∧ AllBare s'.gens) s₁ := by
    intro H hO hS hok hA hK
    have free : ∀ {b : Addr}, b ≠ a → H b = none := fun {b} nb => by
      cases q : H b with
      | none => rfl
      | some u => exact absurd (hA b (by rw [q]; simp)) nb
    have nsK : ∀ {b : Addr} {m : Str → Option Value}, s₁.heap.Ns b m → (hidT s₁.heap H).Ns b m := fun {b m} ⟨o, es, ep, e, d, rr⟩ => ⟨o, es, ep, hidT_get e (free fun z => by
      subst z
      rw [ha] at e
      cases e
      cases d), d, rr⟩
    have hKb : K.In (hidT s₁.heap H) := fun b o e => hidT_get (KX b o e) (by
      cases q : H b with
      | none => rfl
      | some u =>
        obtain rfl := hA b (by rw [q]; simp)
        have := hK (by rw [q]; simp)
        rw [this] at e
        cases e)
    obtain ⟨mc, n1, n2⟩ := hlim
    have e0 : Env0 P w K mg (hidT s₁.heap H) callerA [] s₁ H := ⟨rfl, ⟨hKb, nsK hns, ⟨mb, nsK hb, hbb⟩, ⟨mc, nsK n1, n2⟩⟩, fun b o e => of_hidT e, Nat.le_of_eq (hidT_size _ _), trivial, fun b z => (by cases z), hok, .of_eq hg⟩
    refine codeAny_mono ((F _ hKb (nsK hns)).run callerA [] s₁ H ⟨[.ref a], []⟩ [.ref a] [.ref a] _ _ hr rfl e0 (hbind s₁ (.ref a)) (.cons rfl .nil) (hsp H hO hS)) fun r s' h => ?_
    match r, h with
    | .error e, h => exact (hCX H e s' h).elim
    | .ok .next, h => exact h.elim
    | .ok .brk, h => exact h.elim
    | .ok .cont, h => exact h.elim
    | .ok (.ret u), ⟨v, H', os, bare, un, hok', r', q⟩ =>
      obtain rfl : v = .bl true := q
      obtain rfl : u = Value.bool true := r'
      refine ⟨rfl, OldK.of_keep fun b o e => ?_, os, bare⟩
      by_cases nb : b = a
      · cases q : H b with
        | none => exact un.keep b o e q (fun z => by cases z) (by simp)
        | some u =>
          rcases hO b with z | ⟨ob, xs, z⟩
          · rw [q] at z; cases z
          · have e1 := (hok b _ z).1
            have e2 := (hok' b _ (un.frzs b ob _ z)).1
            rw [e] at e1
            cases e1
            exact e2
      · exact un.keep b o e (free nb) (fun z => by cases z) (by simp)
  cases hk : K.lookup a with
  | some o =>
    have e := KX a o hk
    rw [ha] at e
    cases e
    exact main (fun _ => none) (fun _ => .inl rfl) (.inr ⟨_, vs.toArray, _, hk, rfl, rfl, rfl, by rw [List.size_toArray, lv]; exact hl, by simpa using rv⟩) (fun b u z => by cases z) (fun b z => absurd rfl z) fun z => absurd rfl z
  | none =>
    have at_ : ∀ b, b ≠ a → (fun b => if b = a then some (HO.frz { cls := .type "list", data := .seq vs.toArray } (.lst (ns.map V.int))) else none : Hp) b = none := fun b nb => if_neg nb
    refine main (fun b => if b = a then some (.frz { cls := .type "list", data := .seq vs.toArray } (.lst (ns.map V.int))) else none) (fun b => ?_) (.inl (.inr ⟨{ cls := .type "list", data := .seq vs.toArray }, if_pos rfl⟩)) (fun b u z => ?_) (fun b z => Classical.byContradiction fun nb => z (at_ b nb)) fun _ => hk
    · by_cases nb : b = a
      · exact .inr ⟨_, _, if_pos nb⟩
      · exact .inl (if_neg nb)
    · by_cases nb : b = a
      · cases (if_pos nb).symm.trans z
        subst nb
        exact ⟨ha, by rw [List.length_map]; exact hl, vs, _, rv, ha⟩
      · cases (if_neg nb).symm.trans z
theorem walkG_of {l : PySem.W.OpenLaw} {n k : Nat} {q : Program} {loose : List Str} {XP : (Str → Option Value) → Heap → Prop} {YP : World → Heap → Prop} {d : DefRec} {K : Params → PySem.W.Frag} {CX : World → CXT} {sp : World → L2.Sp} {x : Str}
    (hn : l.most = some n) (hn2 : n ≤ sizeLine) (hdf : d.params.defaults = []) (hr : Room k callerA) (hY : ∀ (w : World) (h : Heap), YP w h → (K w.params).In h)
    (F : ∀ (w : World) (mg : Str → Option Value) (fa : Addr) (h : Heap), (K w.params).In h → h.Ns mainGlobals mg → mg d.name = some (.ref fa) → ∃ fd : FuncData, (∀ (s : Shared) (u : Value), BindsTo s fd ⟨[u], []⟩ [(x, u)]) ∧
        ∀ base : Heap, (K w.params).In base → base.Ns mainGlobals mg → FnG l.prog w (K w.params) mg base (CX w) k fa fd [x] (sp w))
    (hsp : ∀ (w : World) (H : Hp) (a : Addr) (ns : List Int), ns.length ≤ n → Only H → SqL (K w.params) H a (ns.map V.int) → sp w [.ref a] H (fun v _ => v = .bl true) fun _ _ _ => False)
    (hCX : ∀ (w : World) (H : Hp) (s : Shared) (e : Value) (s' : Shared), CX w [] H s (fun _ _ _ => False) e s' → False) : PySem.W.WalkO q loose XP YP l.row.toRowW d [] (fun f vs => PySem.call f vs) := by
  refine Att.attach_call hn hdf fun w s₀ s₁ mg mb fa o pm cd doc a vs ns G Y ho hd hcd hmg hobj hints hlen hg => ?_
  have KX := hY w _ Y
  obtain ⟨fd, hb, hF⟩ := F w mg fa _ KX G.T.g hmg
  exact lawG_call KX G.T.g G.T.b G.T.builtins G.T.nolimit hg hobj hints (Nat.le_trans hlen hn2) hr hF hb (fun H hO hS => hsp w H a ns hlen hO hS) fun H e s' => hCX w H s₁ e s'
end DL

/-! ==== DL11 -/
/-! DL11: rules for calls, by data -/
namespace DL
open PySem PySem.Spec PyProof.Rows L2

/-! ### who runs -/
section
variable {X : Cx} {CX : CXT} {k n : Nat} {f C : Addr} {fd : FuncData} {ps ks : List Str} {sp : L2.Sp} {E : XK} {ds : List Value} {dvs : List V} {g : List Value → List Value → List Value} {gV : List V → List V → List V}
theorem runs_fn (F : FnG X.prog X.w X.K X.mg X.base CX k f fd ps sp) (hr : Room k X.A) (gd : X.A.guards = some []) (hb : Binds X.K fd ps ds) (hd : Vals dvs ds) (hx : Passes CX X E) : Runs X (.ref f) n [] fun vs _ H Q => sp (vs ++ dvs) H Q E :=
  ⟨fun pins s σ H Q vs us zs ws I r _ _ _ h => runG_fn F hr gd hb hd hx I r h⟩
theorem runs_fnK (F : FnG X.prog X.w X.K X.mg X.base CX k f fd ps sp) (hr : Room k X.A) (gd : X.A.guards = some []) (hb : KBn X.K fd ps n ks g gV) (hx : Passes CX X E) : Runs X (.ref f) n ks fun vs zs H Q => sp (gV vs zs) H Q E :=
  ⟨fun pins s σ H Q vs us zs ws I r rz l1 l2 h => runG_fnN F hr gd hb hx I r rz l1 l2 h⟩
/-- a new instance and its dict, then __init__ -/
def spMake (C : Addr) (sp : L2.Sp) (gV : List V → List V → List V) (E : XK) : List V → List V → Hp → VK → Prop := fun vs zs H Q => ∀ x dx, H x = none → H dx = none → dx ≠ x → sp (.ref x :: gV vs zs) (upd (upd H dx (.own x)) x (.ins C dx [])) (fun v H2 => v = .non ∧ Q (.ref x) H2) E
theorem runs_makeK {gI : List Value → List Value → List Value} {gW : List V → List V → List V} (M : Mk X.K C f) (F : FnG X.prog X.w X.K X.mg X.base CX k f fd ps sp) (hr : Room (k + 1) X.A) (gd : X.A.guards = some []) (hb : KBn X.K fd ps (n + 1) ks gI gW) (hw : ∀ x vs zs, gW (x :: vs) zs = x :: gV vs zs) (hx : Passes CX X E) : Runs X (.ref C) n ks (spMake C sp gV E) :=
  ⟨fun pins s σ H Q vs us zs ws I r rz l1 l2 h => runG_makeK M F hr gd hb hx I r rz l1 l2 fun x dx h1 h2 h3 => by rw [hw]; exact h x dx h1 h2 h3⟩
end

section
variable {c : Kc} {W : WX} {X : Cx} {H0 F F' H H' : Hp} {env env' : Env} {σ σ' : L2.St} {Q : VK}
theorem its_mono (s : Same F F') : ∀ {its : List It} {vs : List V} {env env' : Env}, EnvLe env env' → (∀ i ∈ refsOf its, ∃ o, ovOf env'[i]? = some o) → ItsOk c F env σ its vs → ItsOk c F' env' σ its vs
  | [], _, _, _, _, _, h => h
  | .d _ :: its, _, _, _, le, hr, ⟨v, r, e, h, t⟩ => ⟨v, r, e, Rp.mono s _ _ h, its_mono s le hr t⟩
  | .r i :: its, _, _, _, le, hr, ⟨v, r, e, h, _, t⟩ => ⟨v, r, e, h, hr i List.mem_cons_self, its_mono s le (fun j m => hr j (List.mem_cons_of_mem _ m)) t⟩
theorem its_app : ∀ {its jts : List It} {vs zs : List V}, ItsOk c F env σ its vs → ItsOk c F env σ jts zs → ItsOk c F env σ (its ++ jts) (vs ++ zs)
  | [], jts, vs, zs, h, t => by rw [show vs = [] from h]; exact t
  | .d _ :: its, jts, _, zs, ⟨v, r, e, h, t⟩, k => ⟨v, r ++ zs, by rw [e]; rfl, h, its_app t k⟩
  | .r _ :: its, jts, _, zs, ⟨v, r, e, h, o, t⟩, k => ⟨v, r ++ zs, by rw [e]; rfl, h, o, its_app t k⟩
theorem its_ds : ∀ {ds : List D} {vs : List V}, RpL c.K c.cm F ds vs → ItsOk c F env σ (ds.map .d) vs
  | [], vs, h => by simp only [RpL] at h; exact h
  | d :: ds, vs, h => by
    simp only [RpL] at h
    obtain ⟨v, r, e, h, t⟩ := h
    exact ⟨v, r, e, h, its_ds t⟩
/-- the own objects that are named are such yet -/
def refsB (its : List It) (e : Env) : Bool := (refsOf its).all fun i => (ovOf e[i]?).isSome
theorem refsB_of {its : List It} {e : Env} (h : refsB its e = true) : ∀ i ∈ refsOf its, ∃ o, ovOf e[i]? = some o := fun i m => by
  have := List.all_eq_true.mp h i m
  exact Option.isSome_iff_exists.mp this
/-- a call: positional items, keywords' items, as the parameters want them -/
def callS (cf : List It → Env → Out D) (gD : List It → List It → List It) (ra rk : Env → Out (List It)) (e : Env) : Out D := (ra e).bind fun its e1 => (rk e1).bind fun jts e2 => if refsB its e2 = true then cf (gD its jts) e2 else .no
/-- how the arguments are laid -/
structure Arr (c : Kc) (gD : List It → List It → List It) (gV : List V → List V → List V) : Prop where
  to : ∀ (F : Hp) (env : Env) (σ : L2.St) (its jts : List It) (vs zs : List V), ItsOk c F env σ its vs → ItsOk c F env σ jts zs → ItsOk c F env σ (gD its jts) (gV vs zs)
theorem its_rev : ∀ {its : List It} {vs : List V}, ItsOk c F env σ its vs → ItsOk c F env σ its.reverse vs.reverse
  | [], vs, h => by rw [show vs = [] from h]; rfl
  | .d x :: its, _, ⟨v, r, rfl, h, t⟩ => by
    rw [List.reverse_cons, List.reverse_cons]
    exact its_app (its_rev t) ⟨v, [], rfl, h, rfl⟩
  | .r i :: its, _, ⟨v, r, rfl, h, o, t⟩ => by
    rw [List.reverse_cons, List.reverse_cons]
    exact its_app (its_rev t) ⟨v, [], rfl, h, o, rfl⟩
def posA (ds : List D) (its _ : List It) : List It := its ++ ds.map .d
def kwA (its jts : List It) : List It := its ++ jts
def kwR (its jts : List It) : List It := its ++ jts.reverse
theorem arr_pos {ds : List D} {dvs : List V} (hd : ∀ F, RpL c.K c.cm F ds dvs) : Arr c (posA ds) fun vs _ => vs ++ dvs := ⟨fun F env σ its jts vs zs h _ => its_app h (its_ds (hd F))⟩
theorem arr_kw : Arr c kwA fun vs zs => vs ++ zs := ⟨fun F env σ its jts vs zs h k => its_app h k⟩
theorem arr_rev : Arr c kwR fun vs zs => vs ++ zs.reverse := ⟨fun F env σ its jts vs zs h k => its_app h (its_rev k)⟩
/-- what is called, by data -/
structure CallOk (c : Kc) (W : WX) (cf : List It → Env → Out D) (gV : List V → List V → List V) (sp : L2.St → List V → List V → Hp → VK → Prop) : Prop where
  to : ∀ (H0 F H : Hp) (env : Env) (σ : L2.St) (Q : VK) (its : List It) (vs zs : List V), c.Good H0 F env σ H → ItsOk c F env σ its (gV vs zs) → Res c W H0 F env σ (cf its env) (fun d _ F' H' => ∀ v, Rp c.K c.cm F' d v → Q v H') → sp σ vs zs H Q
theorem callOk_fn {fn : List SV → Out D} {gV : List V → List V → List V} : CallOk c W (fnCall fn) gV fun σ vs zs H Q => spF c fn (gV vs zs) H Q (W σ) :=
  ⟨fun H0 F H env σ Q its vs zs g h q => g.call h q fun d e F' H' h => h⟩
theorem call_read {n m : Nat} {cf : List It → Env → Out D} {gD : List It → List It → List It} {gV : List V → List V → List V} {sp : L2.St → List V → List V → Hp → VK → Prop} {ra rk : Env → Out (List It)} (A : Arr c gD gV) (K : CallOk c W cf gV sp) (hn : ∀ e its e', ra e = .ok its e' → its.length = n) (hm : ∀ e its e', rk e = .ok its e' → its.length = m)
    (g : c.Good H0 F env σ H) (q : Res c W H0 F env σ (callS cf gD ra rk env) fun d _ F' H' => ∀ v, Rp c.K c.cm F' d v → Q v H') : tRuns n m (sp σ) (tR c W ra) (tR c W rk) σ H Q := by
  refine ⟨H0, F, env, g, ?_⟩
  cases e1 : ra env with
  | no => unfold callS at q; rw [e1] at q; exact q
  | ex x e => unfold callS at q; rw [e1] at q; exact q
  | ok its ev1 =>
    unfold callS at q
    rw [e1] at q
    intro F1 H1 s1 vs hvs
    have q1 := Res.base s1 q
    refine ⟨H0, F1, ev1, s1.good, ?_⟩
    simp only [bind_ok] at q1
    cases e2 : rk ev1 with
    | no => rw [e2] at q1; exact q1
    | ex x e => rw [e2] at q1; exact q1
    | ok jts ev2 =>
      rw [e2] at q1
      intro F2 H2 s2 zs hzs
      have q2 := Res.base s2 q1
      have l1 := (its_len hvs).trans (hn _ _ _ e1)
      have l2 := (its_len hzs).trans (hm _ _ _ e2)
      refine ⟨l1, l2, ?_⟩
      simp only [bind_ok] at q2
      split at q2
      · rename_i hb
        exact K.to _ _ _ _ _ _ _ _ _ s2.good (A.to _ _ _ _ _ _ _ (its_mono s2.same s2.le (refsB_of hb) hvs) hzs) q2
      · exact q2.elim
end

section
variable {c : Kc} {W : WX} {X : Cx} {n : Nat} {ra : Env → Out D} {rr : Env → Out (List It)}
/-- how many items a reading gives -/
def LenR (r : Env → Out (List It)) (n : Nat) : Prop := ∀ e its e', r e = .ok its e' → its.length = n
theorem len_nil : LenR nilR 0 := fun e its e' h => by cases h; rfl
theorem len_d (h : LenR rr n) : LenR (consRd ra rr) (n + 1) := fun e its e' q => by
  unfold consRd at q
  cases e1 : ra e with
  | no => rw [e1] at q; cases q
  | ex x e => rw [e1] at q; cases q
  | ok x e2 =>
    rw [e1, bind_ok] at q
    cases e3 : rr e2 with
    | no => rw [e3] at q; cases q
    | ex x e => rw [e3] at q; cases q
    | ok xs e4 => rw [e3] at q; cases q; simp [h _ _ _ e3]
theorem len_r {i : Nat} (h : LenR rr n) : LenR (consRr i rr) (n + 1) := fun e its e' q => by
  unfold consRr at q
  split at q
  · cases q
  · cases e3 : rr e with
    | no => rw [e3] at q; cases q
    | ex x e => rw [e3] at q; cases q
    | ok xs e4 =>
      rw [e3, bind_ok] at q
      split at q
      · cases q
      · cases q; simp [h _ _ _ e3]
end

section
variable {c : Kc} {W : WX} {X : Cx} {x m : Str} {p pos apos : Pos} {e o : Expr} {es : List Expr} {kws : List Keyword} {n : Nat} {ks : List Str} {f C : Addr} {cf : List It → Env → Out D} {gD : List It → List It → List It} {gV : List V → List V → List V} {sp : List V → List V → Hp → VK → Prop} {ra rk : Env → Out (List It)} {ro : Env → Out D} {E : XK}
theorem call_imp {t : TE} {r : Env → Out D} {ex : Expr} (h : PE X ex t) (i : ∀ σ H Q H0 F env, c.Good H0 F env σ H → Res c W H0 F env σ (r env) (fun d _ F' H' => ∀ v, Rp c.K c.cm F' d v → Q v H') → t σ H Q) : PE X ex (tD c W r) :=
  h.imp fun σ H Q ⟨H0, F, env, g, q⟩ => i σ H Q H0 F env g q
/-- f(e, ..) by its name -/
theorem dl_call1 (A : Arr c gD gV) (K : CallOk c W cf gV fun _ => sp) (R : Runs X (.ref f) n [] sp) (hl : LenR ra n) (hg : Gl X x) (hm : X.mg x = some (.ref f)) (hk : PySem.W.keepIn X.K (.ref f) = true) (ha : PA X (e :: es) (tR c W ra))
    (hdb : (x == ("__debug__" : Str)) = false := by decide) (he : starEach (e :: es) X.env = (false, eval e X.env) :: starEach es X.env := by rfl) (hpl : (backTo pos (starEach es X.env)).any (·.1) = false := by rfl) :
    PE X (.Call (.Name x p) (e :: es) [] pos) (tD c W (callS cf gD ra nilR)) := call_imp (pr_call R hg hm hk ha hdb he hpl) fun σ H Q H0 F env g q => by
  obtain ⟨H0', F', env', g', k⟩ := call_read (n := n) (m := 0) A K hl len_nil g q
  refine ⟨H0', F', env', g', k.mono fun its e F1 H1 s1 q1 vs hvs => ?_⟩
  obtain ⟨H0b, Fb, envb, gb, kb⟩ := q1 vs hvs
  exact kb.ret gb [] rfl
/-- f() -/
theorem dl_call0 (A : Arr c gD gV) (K : CallOk c W cf gV fun _ => sp) (R : Runs X (.ref f) 0 [] sp) (hg : Gl X x) (hm : X.mg x = some (.ref f)) (hk : PySem.W.keepIn X.K (.ref f) = true)
    (hdb : (x == ("__debug__" : Str)) = false := by decide) : PE X (.Call (.Name x p) [] [] pos) (tD c W (callS cf gD nilR nilR)) := call_imp (pr_call0 R hg hm hk hdb) fun σ H Q H0 F env g q => by
  obtain ⟨H0', F', env', g', k⟩ := call_read (n := 0) (m := 0) A K len_nil len_nil g q
  obtain ⟨H0b, Fb, envb, gb, kb⟩ := k.ret g' [] rfl
  exact kb.ret gb [] rfl
/-- f(e, .., k = v, ..) -/
theorem dl_callK (A : Arr c gD gV) (K : CallOk c W cf gV fun _ => sp) (R : Runs X (.ref f) n ks sp) (hl : LenR ra n) (hlk : LenR rk ks.length) (hg : Gl X x) (hm : X.mg x = some (.ref f)) (hk : PySem.W.keepIn X.K (.ref f) = true)
    (ha : PA X (e :: es) (tR c W ra)) (hkw : PK X kws (tR c W rk)) (hall : (backToKw pos (keywordEach kws X.env)).all (·.1.isSome) = true := by rfl) (hks : (backToKw pos (keywordEach kws X.env)).filterMap (·.1) = ks := by rfl)
    (hdb : (x == ("__debug__" : Str)) = false := by decide) (he : starEach (e :: es) X.env = (false, eval e X.env) :: starEach es X.env := by rfl)
    (hpl : ((backTo pos (starEach (e :: es) X.env)).any (·.1) || (backToKw pos (keywordEach kws X.env)).any (·.1.isNone)) = false := by rfl) :
    PE X (.Call (.Name x p) (e :: es) kws pos) (tD c W (callS cf gD ra rk)) := call_imp (pr_callK R hg hm hk ha hkw hall hks hdb he hpl) fun σ H Q H0 F env g q => call_read A K hl hlk g q
theorem dl_callK0 (A : Arr c gD gV) (K : CallOk c W cf gV fun _ => sp) (R : Runs X (.ref f) 0 ks sp) (hlk : LenR rk ks.length) (hg : Gl X x) (hm : X.mg x = some (.ref f)) (hk : PySem.W.keepIn X.K (.ref f) = true)
    (hkw : PK X kws (tR c W rk)) (hall : (backToKw pos (keywordEach kws X.env)).all (·.1.isSome) = true := by rfl) (hks : (backToKw pos (keywordEach kws X.env)).filterMap (·.1) = ks := by rfl)
    (hdb : (x == ("__debug__" : Str)) = false := by decide) (hpl : ((backTo pos (starEach [] X.env)).any (·.1) || (backToKw pos (keywordEach kws X.env)).any (·.1.isNone)) = false := by rfl) :
    PE X (.Call (.Name x p) [] kws pos) (tD c W (callS cf gD nilR rk)) := call_imp (pr_callK0 R hg hm hk hkw hall hks hdb hpl) fun σ H Q H0 F env g q => by
  obtain ⟨H0', F', env', g', k⟩ := call_read (n := 0) A K len_nil hlk g q
  exact k.ret g' [] rfl
end
end DL

/-! ==== DL12 -/
/-! DL12: methods, new instances -/
namespace DL
open PySem PySem.Spec PyProof.Rows L2

section
variable {c : Kc} {W : WX} {X : Cx} {x m : Str} {p pos apos : Pos} {e o : Expr} {es : List Expr} {kws : List Keyword} {n : Nat} {ks : List Str} {f C : Addr} {fn : List SV → Out D} {ds : List D} {dvs : List V} {ra rk : Env → Out (List It)} {ro : Env → Out D} {E : XK}
/-- o.m(..), o an instance of the class cn -/
def methS (cn m : Str) (fn : List SV → Out D) (ds : List D) (ro : Env → Out D) (ra : Env → Out (List It)) (e : Env) : Out D := (ro e).bind fun d e1 => match d with
  | .obj cn' ns l => if cn' = cn ∧ (ns.contains m) = false then (ra e1).bind fun its e2 => if refsB its e2 = true then fnCall fn (.d (.obj cn' ns l) :: (its ++ ds.map .d)) e2 else .no else .no
  | _ => .no
theorem lookup_none_of {m : Str} : ∀ {fs : List (Str × V)}, (fs.map (·.1)).contains m = false → fs.lookup m = none
  | [], _ => rfl
  | (g, v) :: r, h => by
    simp only [List.map_cons, List.contains_cons, Bool.or_eq_false_iff] at h
    show List.lookup m ((g, v) :: r) = none
    unfold List.lookup
    rw [h.1]
    exact lookup_none_of h.2
theorem meth_read {cn : Str} {H0 F H : Hp} {env : Env} {σ : L2.St} {Q : VK} (hc : c.cm cn = some C) (hl : LenR ra n) (hd : ∀ F, RpL c.K c.cm F ds dvs)
    (g : c.Good H0 F env σ H) (q : Res c W H0 F env σ (methS cn m fn ds ro ra env) fun d _ F' H' => ∀ v, Rp c.K c.cm F' d v → Q v H') :
    tRunM C m n (fun vs _ H Q => spF c fn (vs ++ dvs) H Q (W σ)) (tD c W ro) (tR c W ra) σ H Q := by
  refine ⟨H0, F, env, g, ?_⟩
  cases e1 : ro env with
  | no => unfold methS at q; rw [e1] at q; exact q
  | ex x e => unfold methS at q; rw [e1] at q; exact q
  | ok d ev1 =>
    unfold methS at q
    rw [e1] at q
    intro F1 H1 s1 v hv
    have q1 := Res.base s1 q
    simp only [bind_ok] at q1
    cases d with
    | obj cn' ns l =>
      simp only at q1
      split at q1
      · rename_i hh
        obtain ⟨h1, h2⟩ := hh
        subst h1
        have hv0 := hv
        simp only [Rp] at hv
        obtain ⟨a, dx, C', fs, rfl, hC, k1, k2, k3, r⟩ := hv
        rw [hc] at hC; cases hC
        refine ⟨a, dx, fs, rfl, s1.good.le _ _ k1, lookup_none_of (by rw [k3]; exact h2), H0, F1, ev1, s1.good, ?_⟩
        cases e2 : ra ev1 with
        | no => rw [e2] at q1; exact q1
        | ex x e => rw [e2] at q1; exact q1
        | ok its ev2 =>
          rw [e2] at q1
          intro F2 H2 s2 vs hvs
          have q2 := Res.base s2 q1
          simp only [bind_ok] at q2
          refine ⟨(its_len hvs).trans (hl _ _ _ e2), ?_⟩
          split at q2
          · have hi : ItsOk c F2 ev2 σ (.d (.obj cn' ns l) :: (its ++ ds.map .d)) (.ref a :: (vs ++ dvs)) := ⟨_, _, rfl, Rp.mono s2.same _ _ hv0, its_app hvs (its_ds (hd F2))⟩
            exact s2.good.call hi q2 fun d e F' H' h => h
          · exact q2.elim
      · exact q1.elim
    | _ => exact q1.elim
theorem dl_meth {cn : Str} {pl : Sem Bool} (hW : W = fun _ => E) (hc : c.cm cn = some C) (R : Runs X (.ref f) (n + 1) [] fun vs _ H Q => spF c fn (vs ++ dvs) H Q E) (hd : ∀ F, RpL c.K c.cm F ds dvs) (hl : LenR ra n) (cl : Cls X.K C) (hm : Meth X.K C m f) (ho : PE X o (tD c W ro)) (ha : PA X (e :: es) (tR c W ra))
    (hst : starEach (e :: es) X.env = (false, eval e X.env) :: starEach es X.env := by rfl) (hpl : (backTo pos (starEach es X.env)).any (·.1) = false := by rfl)
    (ht : eval (.Call (.Attribute o m apos) (e :: es) [] pos) X.env = (do
      let ov ← eval o X.env
      standAt apos.atName
      let (f, first) ← holding [ov] (getMethod ov m pl)
      callWith pos f first (backTo pos (starEach (e :: es) X.env)) (backToKw pos (keywordEach [] X.env))) := by rfl) :
    PE X (.Call (.Attribute o m apos) (e :: es) [] pos) (tD c W (methS cn m fn ds ro ra)) := call_imp (pr_meth ho cl hm R ha hst hpl ht) fun σ H Q H0 F env g q => by
  subst hW
  exact meth_read hc hl hd g q
theorem dl_meth0 {cn : Str} {pl : Sem Bool} (hW : W = fun _ => E) (hc : c.cm cn = some C) (R : Runs X (.ref f) 1 [] fun vs _ H Q => spF c fn (vs ++ dvs) H Q E) (hd : ∀ F, RpL c.K c.cm F ds dvs) (cl : Cls X.K C) (hm : Meth X.K C m f) (ho : PE X o (tD c W ro))
    (ht : eval (.Call (.Attribute o m apos) [] [] pos) X.env = (do
      let ov ← eval o X.env
      standAt apos.atName
      let (f, first) ← holding [ov] (getMethod ov m pl)
      callWith pos f first (backTo pos (starEach [] X.env)) (backToKw pos (keywordEach [] X.env))) := by rfl) :
    PE X (.Call (.Attribute o m apos) [] [] pos) (tD c W (methS cn m fn ds ro nilR)) := call_imp (pr_meth0 ho cl hm R ht) fun σ H Q H0 F env g q => by
  subst hW
  obtain ⟨H0', F', env', g', k⟩ := meth_read (n := 0) hc len_nil hd g q
  refine ⟨H0', F', env', g', k.mono fun d e1 F1 H1 s1 q1 v hv => ?_⟩
  obtain ⟨a, dx, fs, rfl, h1, h2, H0b, Fb, envb, gb, kb⟩ := q1 v hv
  exact ⟨a, dx, fs, rfl, h1, h2, kb.ret gb [] rfl⟩
end

/-! ### __init__ -/
/-- a change where nobody looks -/
theorem Good.poke {c : Kc} {H0 F H : Hp} {env : Env} {σ : L2.St} {x : Addr} {o : HO} (g : c.Good H0 F env σ H) (h0 : H0 x ≠ none) (f : F x = none) (no : ∀ (i : Nat) sv, env[i]? = some sv → sv.isO = true → σ[i]? ≠ some (some (.ref x))) :
    c.Good (upd H0 x o) F env σ (upd H x o) := by
  refine ⟨fun b u e => ?_, g.len, fun i sv e => ?_, g.sep, fun b u e q => ?_, fun i ov b e z => ?_⟩
  · rw [upd_ne (ne_of_none e f)]; exact g.le b u e
  · have h := g.slot i sv e
    have key : ∀ {b : Addr} {ov : OV}, sv.isO = true → σ[i]? = some (some (.ref b)) → RO c.K c.cm F H b ov → RO c.K c.cm F (upd H x o) b ov := fun {b ov} so hb r =>
      r.mono (Same.refl _) (upd_ne fun z => by subst z; exact no i sv e so hb)
    cases sv with
    | un => trivial
    | dat d => exact h
    | own ov => obtain ⟨b, h1, h2, h3⟩ := h; exact ⟨b, h1, h2, key rfl h1 h3⟩
    | bor ov => obtain ⟨b, h1, h2, h3⟩ := h; exact ⟨b, h1, h2, key rfl h1 h3⟩
  · by_cases hb : b = x
    · subst hb; rw [upd_same] at e ⊢; exact e
    · rw [upd_ne hb] at e ⊢; exact g.frame b u e q
  · have ne : b ≠ x := fun hb => by subst hb; exact h0 (g.fresh i ov b e z)
    rw [upd_ne ne]; exact g.fresh i ov b e z
theorem upd_upd {H : Hp} {x : Addr} {o o' : HO} : upd (upd H x o) x o' = upd H x o' := by
  funext b
  by_cases h : b = x
  · subst h; rw [upd_same, upd_same]
  · rw [upd_ne h, upd_ne h, upd_ne h]
theorem upd_self {H : Hp} {x : Addr} {o : HO} (h : H x = some o) : upd H x o = H := by
  funext b
  by_cases hb : b = x
  · subst hb; rw [upd_same, h]
  · rw [upd_ne hb]
def putFD (f : Str) (d : D) : List (Str × D) → List (Str × D)
  | [] => [(f, d)]
  | (g, x) :: r => if g = f then (g, d) :: r else (g, x) :: putFD f d r
section
variable (c : Kc)
/-- fields by data -/
def FsOk (F : Hp) (fs : List (Str × D)) (fvs : List (Str × V)) : Prop := fvs.map (·.1) = fs.map (·.1) ∧ RpL c.K c.cm F (fs.map (·.2)) (fvs.map (·.2))
/-- within __init__: the slot 0 bears the new instance -/
structure InI (H0 F : Hp) (env : Env) (σ : L2.St) (C x dx : Addr) (fs : List (Str × D)) (fvs : List (Str × V)) : Prop where
  s0 : σ[0]? = some (some (.ref x))
  e0 : env[0]? = some .un
  ob : H0 x = some (.ins C dx fvs)
  no : ∀ (i : Nat) sv, env[i]? = some sv → sv.isO = true → σ[i]? ≠ some (some (.ref x))
  fr : F x = none
  ok : FsOk c F fs fvs
/-- THE canonical reading of a statement of __init__ -/
def tN (C : Addr) (W : WX) (r : Env → List (Str × D) → Out (List (Str × D))) : TS := fun D σ H => ∃ H0 F env x dx fs fvs, c.Good H0 F env σ H ∧ InI c H0 F env σ C x dx fs fvs ∧ match r env fs with
  | .no => False
  | .ok fs' env' => ∀ σ' F' H' fvs', StepS c (upd H0 x (.ins C dx fvs')) F env σ F' env' σ' H' → InI c (upd H0 x (.ins C dx fvs')) F' env' σ' C x dx fs' fvs' → D.nx σ' H'
  | .ex x0 env' => ∀ σ' F' H' cl d fvs', StepS c (upd H0 x (.ins C dx fvs')) F env σ F' env' σ' H' → XRep c F' H' x0 cl d → W σ' cl d H'
end
section
variable {c : Kc} {W : WX} {X : Cx} {C : Addr} {r1 r2 : Env → List (Str × D) → Out (List (Str × D))} {s : Stmt} {ss : List Stmt} {H0 F F' H H' : Hp} {env env' : Env} {σ σ' : L2.St} {x dx : Addr} {fs fs' : List (Str × D)} {fvs fvs' : List (Str × V)} {o o' : HO}
theorem StepS.poke (s : StepS c H0 F env σ F' env' σ' H') (h0 : H0 x ≠ none) (f : F x = none) (no : ∀ (i : Nat) sv, env'[i]? = some sv → sv.isO = true → σ'[i]? ≠ some (some (.ref x))) : StepS c (upd H0 x o) F env σ F' env' σ' (upd H' x o) := by
  have f' : F' x = none := by
    cases e : F' x with
    | none => rfl
    | some u => have := s.old x u h0 e; rw [f] at this; cases this
  refine ⟨s.same, s.good.poke h0 f' no, fun a u n e => ?_, s.len, s.bor, s.rob⟩
  by_cases ha : a = x
  · subst ha; rw [f'] at e; cases e
  · rw [upd_ne ha] at n; exact s.old a u n e
def nilN (e : Env) (fs : List (Str × D)) : Out (List (Str × D)) := .ok fs e
def seqN (r1 r2 : Env → List (Str × D) → Out (List (Str × D))) (e : Env) (fs : List (Str × D)) : Out (List (Str × D)) := (r1 e fs).bind fun fs' e' => r2 e' fs'
theorem InI.poke (I : InI c H0 F env σ C x dx fs fvs) (k : FsOk c F fs' fvs') : InI c (upd H0 x (.ins C dx fvs')) F env σ C x dx fs' fvs' := ⟨I.s0, I.e0, upd_same, I.no, I.fr, k⟩
theorem dl_nilN : PSs X [] (tN c C W nilN) := pss_nil.imp fun D σ H ⟨H0, F, env, x, dx, fs, fvs, g, I, q⟩ => by
  have := q σ F H fvs
  rw [upd_self I.ob] at this
  exact this (StepS.refl g) I
theorem dl_seqN (h1 : PS X s (tN c C W r1)) (h2 : PSs X ss (tN c C W r2)) : PSs X (s :: ss) (tN c C W (seqN r1 r2)) := (pss_cons h1 h2).imp fun D σ H ⟨H0, F, env, x, dx, fs, fvs, g, I, q⟩ => by
  refine ⟨H0, F, env, x, dx, fs, fvs, g, I, ?_⟩
  unfold seqN at q
  cases e1 : r1 env fs with
  | no => rw [e1] at q; exact q
  | ex x0 e =>
    rw [e1] at q
    exact q
  | ok fs1 env1 =>
    rw [e1, bind_ok] at q
    intro σ1 F1 H1 fvs1 s1 I1
    refine ⟨_, F1, env1, x, dx, fs1, fvs1, s1.good, I1, ?_⟩
    cases e2 : r2 env1 fs1 with
    | no => rw [e2] at q; exact q
    | ok fs2 env2 =>
      rw [e2] at q
      intro σ2 F2 H2 fvs2 s2 I2
      rw [upd_upd] at s2 I2
      have h0 : (upd H0 x (.ins C dx fvs1)) x ≠ none := by rw [upd_same]; simp
      have s1' := s1.poke (o := .ins C dx fvs2) h0 I.fr I1.no
      rw [upd_upd] at s1'
      refine q σ2 F2 H2 fvs2 ?_ I2
      exact ⟨s1'.same.trans s2.same, s2.good, fun a u n e => s1'.old a u n (s2.old a u n e), s2.len.trans s1'.len, fun i ov e => by
        obtain ⟨⟨o1, w1⟩, w2⟩ := s1'.bor i ov e
        obtain ⟨w3, w4⟩ := s2.bor i o1 w1
        exact ⟨w3, w4.trans w2⟩, fun i ov e => by
        obtain ⟨o1, w1⟩ := s2.rob i ov e
        exact s1'.rob i o1 w1⟩
    | ex x0 env2 =>
      rw [e2] at q
      intro σ2 F2 H2 cl d fvs2 s2 hx
      rw [upd_upd] at s2
      have h0 : (upd H0 x (.ins C dx fvs1)) x ≠ none := by rw [upd_same]; simp
      have s1' := s1.poke (o := .ins C dx fvs2) h0 I.fr I1.no
      rw [upd_upd] at s1'
      refine q σ2 F2 H2 cl d fvs2 ?_ hx
      exact ⟨s1'.same.trans s2.same, s2.good, fun a u n e => s1'.old a u n (s2.old a u n e), s2.len.trans s1'.len, fun i ov e => by
        obtain ⟨⟨o1, w1⟩, w2⟩ := s1'.bor i ov e
        obtain ⟨w3, w4⟩ := s2.bor i o1 w1
        exact ⟨w3, w4.trans w2⟩, fun i ov e => by
        obtain ⟨o1, w1⟩ := s2.rob i ov e
        exact s1'.rob i o1 w1⟩
/-- a statement that leaves the instance alone -/
def doN (r : Env → Out D) (e : Env) (fs : List (Str × D)) : Out (List (Str × D)) := (r e).bind fun _ e' => .ok fs e'
theorem dl_doN {e : Expr} {pos : Pos} {re : Env → Out D} (h : PE X e (tD c W re)) (hs : swapsWith e none pos.line X.env = pure false := by rfl) : PS X (.Expr e pos) (tN c C W (doN re)) := (ps_expr h hs).imp fun D σ H ⟨H0, F, env, x, dx, fs, fvs, g, I, q⟩ => by
  refine ⟨H0, F, env, g, ?_⟩
  unfold doN at q
  cases e1 : re env with
  | no => rw [e1] at q; exact q
  | ex x0 e =>
    rw [e1] at q
    intro F' H' cl d st hx
    refine q σ F' H' cl d fvs ?_ hx
    rw [upd_self I.ob]; exact st.toS
  | ok d env' =>
    rw [e1, bind_ok] at q
    intro F' H' st v hv
    have s' := st.toS
    have f' : F' x = none := by
      cases e : F' x with
      | none => rfl
      | some u => have := s'.old x u (by rw [I.ob]; simp) e; rw [I.fr] at this; cases this
    refine q σ F' H' fvs (by rw [upd_self I.ob]; exact s') ?_
    rw [upd_self I.ob]
    refine ⟨I.s0, ?_, I.ob, fun i sv e so => ?_, f', I.ok.1, RpL.mono st.same _ _ I.ok.2⟩
    · obtain ⟨t, e2, l⟩ := st.le.at_ 0 _ I.e0
      cases l; exact e2
    · obtain ⟨t, e2, l⟩ := st.le.back e
      refine I.no i t e2 ?_
      cases t with
      | un => cases l; cases so
      | dat d => cases l; cases so
      | own ov => rfl
      | bor ov => rfl
theorem putF_fs {f : Str} {d : D} {v : V} (hv : Rp c.K c.cm F d v) : ∀ {fs : List (Str × D)} {fvs : List (Str × V)}, FsOk c F fs fvs → FsOk c F (putFD f d fs) (putF f v fvs)
  | [], fvs, ⟨h1, h2⟩ => by
    have : fvs = [] := by cases fvs with | nil => rfl | cons a l => simp at h1
    subst this
    exact ⟨rfl, .cons hv .nil⟩
  | (g, y) :: fs, [], ⟨h1, h2⟩ => by simp at h1
  | (g, y) :: fs, (g', y') :: fvs, ⟨h1, h2⟩ => by
    simp only [List.map_cons, List.cons.injEq] at h1
    obtain ⟨e, h1⟩ := h1
    have e : g' = g := e
    subst e
    simp only [List.map_cons, RpL] at h2
    obtain ⟨v', r, e, h2, h3⟩ := h2
    obtain ⟨e1, e2⟩ := List.cons.inj e
    have e1 : y' = v' := e1
    subst e1
    show FsOk c F (if g' = f then (g', d) :: fs else (g', y) :: putFD f d fs) (if g' = f then (g', v) :: fvs else (g', y') :: putF f v fvs)
    by_cases hg : g' = f
    · rw [if_pos hg, if_pos hg]
      refine ⟨by simp [h1], ?_⟩
      exact .cons hv (by rw [e2]; exact h3)
    · rw [if_neg hg, if_neg hg]
      obtain ⟨k1, k2⟩ := putF_fs (f := f) hv (fs := fs) (fvs := fvs) ⟨h1, by rw [e2]; exact h3⟩
      exact ⟨by simp [k1], .cons h2 k2⟩
/-- self.f = e -/
def fldN (f : Str) (r : Env → Out D) (e : Env) (fs : List (Str × D)) : Out (List (Str × D)) := (r e).bind fun d e' => if fs.length < 1000 then .ok (putFD f d fs) e' else .no
theorem dl_fldN {o e : Expr} {f : Str} {pos pos' : Pos} {re : Env → Out D} (hc : Cls X.K C ∧ NoAttr X.K C f) (ho : PE X o (tVar 0)) (h : PE X e (tD c W re)) (hs : swapsWith e (some (.Attribute o f pos')) pos.line X.env = pure false := by rfl) :
    PS X (.Assign [.Attribute o f pos'] e pos) (tN c C W (fldN f re)) := (ps_fld ho h hs).imp fun D σ H ⟨H0, F, env, x, dx, fs, fvs, g, I, q⟩ => by
  refine ⟨H0, F, env, g, ?_⟩
  unfold fldN at q
  cases e1 : re env with
  | no => rw [e1] at q; exact q
  | ex x0 e =>
    rw [e1] at q
    intro F' H' cl d st hx
    refine q σ F' H' cl d fvs ?_ hx
    rw [upd_self I.ob]; exact st.toS
  | ok d env' =>
    rw [e1, bind_ok] at q
    intro F' H' st v hv
    have s' := st.toS
    have h0 : H0 x ≠ none := by rw [I.ob]; simp
    have f' : F' x = none := by
      cases e : F' x with
      | none => rfl
      | some u => have := s'.old x u h0 e; rw [I.fr] at this; cases this
    have no' : ∀ (i : Nat) sv, env'[i]? = some sv → sv.isO = true → σ[i]? ≠ some (some (.ref x)) := fun i sv e so => by
      obtain ⟨t, e2, l⟩ := st.le.back e
      refine I.no i t e2 ?_
      cases t with
      | un => cases l; cases so
      | dat d => cases l; cases so
      | own ov => rfl
      | bor ov => rfl
    have hx : H' x = some (.ins C dx fvs) := st.good.frame x _ I.ob fun i sv e b => no' i sv e (SV.isO_of_isB b)
    have e0' : env'[0]? = some .un := by
      obtain ⟨t, e2, l⟩ := st.le.at_ 0 _ I.e0
      cases l; exact e2
    by_cases hl : fs.length < 1000
    · rw [if_pos hl] at q
      have hl' : fvs.length < 1000 := by
        have := congrArg List.length I.ok.1
        rw [List.length_map, List.length_map] at this
        omega
      refine ⟨_, I.s0, x, C, dx, fvs, rfl, hx, hc.1, hc.2, hl', ?_⟩
      refine q σ F' _ (putF f v fvs) (s'.poke h0 I.fr no') ⟨I.s0, e0', upd_same, no', f', putF_fs hv ⟨I.ok.1, RpL.mono st.same _ _ I.ok.2⟩⟩
    · rw [if_neg hl] at q; exact q.elim
end
end DL

/-! ==== DL13 -/
/-! DL13: __init__ as a whole, a new instance, fresh lists handed in -/
namespace DL
open PySem PySem.Spec PyProof.Rows L2

section
variable {c : Kc} {H0 F F' H H' : Hp} {e e' : Env} {τ τ' : L2.St} {v v' : Option V}
theorem Good.cons_un (g : c.Good H0 F e τ H) : c.Good H0 F (.un :: e) (v :: τ) H := by
  refine ⟨g.le, by simp [g.len], fun i sv q => ?_, fun i j sv tv a n q1 q2 o1 o2 r => ?_, fun a o q z => g.frame a o q fun i sv q1 b => by simpa using z (i + 1) sv (by simpa using q1) b, fun i o a q z => ?_⟩
  · cases i with
    | zero => simp at q; subst q; trivial
    | succ i => simpa using g.slot i sv (by simpa using q)
  · cases i with
    | zero => simp at q1; subst q1; cases o1
    | succ i =>
      cases j with
      | zero => simp at q2; subst q2; cases o2
      | succ j => simpa using g.sep i j sv tv a (by omega) (by simpa using q1) (by simpa using q2) o1 o2 (by simpa using r)
  · cases i with
    | zero => simp at q
    | succ i => exact g.fresh i o a (by simpa using q) (by simpa using z)
theorem Good.tl_un (g : c.Good H0 F (.un :: e) (v :: τ) H) : c.Good H0 F e τ H := by
  refine ⟨g.le, by simpa using g.len, fun i sv q => by simpa using g.slot (i + 1) sv (by simpa using q), fun i j sv tv a n q1 q2 o1 o2 r => by
    simpa using g.sep (i + 1) (j + 1) sv tv a (by omega) (by simpa using q1) (by simpa using q2) o1 o2 (by simpa using r), fun a o q z => g.frame a o q fun i sv q1 b => ?_, fun i o a q z => g.fresh (i + 1) o a (by simpa using q) (by simpa using z)⟩
  cases i with
  | zero => simp at q1; subst q1; cases b
  | succ i => simpa using z i sv (by simpa using q1) b
theorem StepS.tl_un (s : StepS c H0 F (.un :: e) (v :: τ) F' (.un :: e') (v' :: τ') H') : StepS c H0 F e τ F' e' τ' H' :=
  ⟨s.same, s.good.tl_un, s.old, by simpa using s.len, fun i o q => by simpa using s.bor (i + 1) o (by simpa using q), fun i o q => by simpa using s.rob (i + 1) o (by simpa using q)⟩
end
section
variable (c : Kc)
/-- what an __init__ promises -/
def spI (C : Addr) (fn : List SV → Out (List (Str × D))) : L2.Sp := fun vs H Q E => ∃ x dx us F svs, vs = .ref x :: us ∧ H x = some (.ins C dx []) ∧ F x = none ∧ c.Good H F svs (us.map some) H ∧ noOwn svs = true ∧
  (∀ (i : Nat) sv, svs[i]? = some sv → sv.isO = true → (us.map some)[i]? ≠ some (some (.ref x))) ∧ match fn svs with
  | .no => False
  | .ok fs svs' => ∀ F' H' fvs, StepS c (upd H x (.ins C dx fvs)) F svs (us.map some) F' svs' (us.map some) H' → F' x = none → FsOk c F' fs fvs → Q .non H'
  | .ex x0 svs' => ∀ F' H' cl d fvs, StepS c (upd H x (.ins C dx fvs)) F svs (us.map some) F' svs' (us.map some) H' → XRep c F' H' x0 cl d → E cl d H'
def fnN (n tot : Nat) (rb : Env → List (Str × D) → Out (List (Str × D))) (svs : List SV) : Out (List (Str × D)) := if svs.length + 1 = n then (match rb (.un :: (svs ++ List.replicate (tot - n) .un)) [] with
    | .ok fs (_ :: e) => .ok fs (backA svs e)
    | .ex x (_ :: e) => .ex x (backA svs e)
    | _ => .no) else .no
end
section
variable {c : Kc} {W : WX} {X : Cx} {C : Addr} {H0 F F' H H' : Hp} {env env' : Env} {σ σ' : L2.St} {Q : VK} {E : XK}
theorem init_of {svs : List SV} {vs us : List V} {N : List Str} {n : Nat} {x dx : Addr} {rb : Env → List (Str × D) → Out (List (Str × D))} {fn : List SV → Out (List (Str × D))} (hW : W = fun _ => E) (hn : vs.length = n)
    (hf : ∀ svs, fn svs ≠ .no → fnN n N.length rb svs = fn svs) (h : spI c C fn vs H Q E) : tN c C W rb { nx := fun _ H' => Q .non H', rt := Q } (L2.start N vs) H := by
  subst hW
  obtain ⟨x, dx, us, F, svs, rfl, hx, fx, g, no, nx, h⟩ := h
  have nn : fn svs ≠ .no := fun e => by rw [e] at h; exact h
  have hl : svs.length + 1 = n := by rw [← hn]; have := g.len; simp at this ⊢; omega
  rw [← hf svs nn] at h
  unfold fnN at h
  rw [if_pos hl] at h
  have g1 : c.Good H F (.un :: svs) ((V.ref x :: us).map some) H := g.cons_un
  have g2 := g1.args N (N.length - n) (by rw [hn])
  have nx1 : ∀ (i : Nat) sv, (SV.un :: svs)[i]? = some sv → sv.isO = true → ((V.ref x :: us).map some)[i]? ≠ some (some (.ref x)) := fun i sv e so => by
    cases i with
    | zero => simp at e; subst e; cases so
    | succ i => simpa using nx i sv (by simpa using e) so
  have no1 : noOwn (.un :: svs) = true := no
  have st0 : (L2.start N (V.ref x :: us))[0]? = some (some (.ref x)) := by unfold L2.start; simp
  refine ⟨H, F, _, x, dx, [], [], g2, ⟨st0, rfl, hx, fun i sv e so => ?_, fx, rfl, .nil⟩, ?_⟩
  · have e' : (SV.un :: svs ++ List.replicate (N.length - n) SV.un)[i]? = some sv := e
    by_cases hi : i < (SV.un :: svs).length
    · rw [List.getElem?_append_left hi] at e'
      have := nx1 i sv e' so
      unfold L2.start
      rw [List.getElem?_append_left (by have := g.len; simp at hi this ⊢; omega)]
      exact this
    · rw [List.getElem?_append_right (by omega)] at e'
      have := List.eq_of_mem_replicate (List.mem_of_getElem? e')
      subst this; cases so
  · have key : ∀ {fvs : List (Str × V)} {F' H' : Hp} {e : Env} {y : SV} {σ' : L2.St}, StepS c (upd H x (.ins C dx fvs)) F (.un :: svs ++ List.replicate (N.length - n) .un) (L2.start N (V.ref x :: us)) F' (y :: e) σ' H' →
        StepS c (upd H x (.ins C dx fvs)) F svs (us.map some) F' (backA svs e) (us.map some) H' := fun {fvs F' H' e y σ'} st => by
      have h0 : H x ≠ none := by rw [hx]; simp
      have g3 := g1.poke (o := .ins C dx fvs) h0 fx nx1
      have := StepS.toArgs (vs := V.ref x :: us) g3 no1 st
      exact StepS.tl_un (v := some (.ref x)) (v' := some (.ref x)) this
    show match rb (.un :: svs ++ List.replicate (N.length - n) SV.un) [] with | .no => False | .ok fs' env' => _ | .ex x0 env' => _
    have e0 : (SV.un :: svs ++ List.replicate (N.length - n) SV.un) = SV.un :: (svs ++ List.replicate (N.length - n) SV.un) := rfl
    rw [e0]
    cases hr : rb (.un :: (svs ++ List.replicate (N.length - n) .un)) [] with
    | no => rw [hr] at h; exact h
    | ex x0 e =>
      rw [hr] at h
      cases e with
      | nil => exact h.elim
      | cons y e => exact fun σ' F' H' cl d fvs st hx => h F' H' cl d fvs (key st) hx
    | ok fs e =>
      rw [hr] at h
      cases e with
      | nil => exact h.elim
      | cons y e => exact fun σ' F' H' fvs st I => h F' H' fvs (key st) I.fr I.ok

/-! ### a new instance -/
/-- what a class gives for arguments -/
def mkCall (cn : Str) (fn : List SV → Out (List (Str × D))) (its : List It) (e : Env) : Out D := if nodupB (refsOf its) = true then (match fn (svsOf e its) with
    | .no => .no
    | .ok fs svs' => .ok (.obj cn (fs.map (·.1)) (fs.map (·.2))) (putBack its svs' e)
    | .ex x svs' => .ex x (putBack its svs' e)) else .no
theorem Good.make {cn : Str} {its : List It} {vs : List V} {fn : List SV → Out (List (Str × D))} {k : D → Env → Hp → Hp → Prop} {gV : List V → List V → List V} {ws zs : List V} (hC : c.cm cn = some C) (hv : gV ws zs = vs) (g : c.Good H0 F env σ H) (h : ItsOk c F env σ its vs)
    (q : Res c W H0 F env σ (mkCall cn fn its env) k) (hk : ∀ d e F' H', k d e F' H' → ∀ v, Rp c.K c.cm F' d v → Q v H') : spMake C (spI c C fn) gV (W σ) ws zs H Q := by
  intro x dx hx hdx ne
  subst hv
  unfold mkCall at q
  split at q
  · rename_i nd
    have nd := nodupB_iff nd
    obtain ⟨g1, a1⟩ := g.lay (o := .own x) hdx
    have hx1 : upd H dx (.own x) x = none := by rw [upd_ne (Ne.symm ne)]; exact hx
    obtain ⟨g2, a2⟩ := g1.lay (o := .ins C dx []) hx1
    have hh := g2.handed h nd
    have nx : ∀ (i : Nat) sv, (svsOf env its)[i]? = some sv → sv.isO = true → ((gV ws zs).map some)[i]? ≠ some (some (.ref x)) := fun i sv e so z => by
      have hi : i < its.length := by rw [← svs_len env its]; exact (List.getElem?_eq_some_iff.mp e).1
      obtain ⟨v, w1, w2⟩ := its_at h (k := i) (it := its[i]) (by simp [hi])
      cases hit : its[i] with
      | d y => rw [hit] at w2; rw [e] at w2; cases w2.2; cases so
      | r j =>
        rw [hit] at w2
        obtain ⟨z1, o, z2, z3⟩ := w2
        rw [List.getElem?_map, w1] at z
        have : v = .ref x := by simpa using z
        subst this
        cases e1 : env[j]? with
        | none => rw [e1] at z2; cases z2
        | some s1 =>
          rw [e1] at z2
          exact a2.no j s1 e1 (by cases s1 <;> first | rfl | cases z2) z1
    -- behind the call
    have key : ∀ {svs' : List SV} {F' H' : Hp} {fvs : List (Str × V)}, StepS c (upd (upd (upd H dx (.own x)) x (.ins C dx [])) x (.ins C dx fvs)) F (svsOf env its) ((gV ws zs).map some) F' svs' ((gV ws zs).map some) H' → F' x = none →
        Step c H0 F env σ F' (putBack its svs' env) H' ∧ Apart (putBack its svs' env) σ H0 F' H' x (.ins C dx fvs) ∧ Apart (putBack its svs' env) σ H0 F' H' dx (.own x) := fun {svs' F' H' fvs} st fx => by
      obtain ⟨g3, a3⟩ := g2.changeApart (o' := .ins C dx fvs) a2
      have s3 := g3.called h nd st
      have no3 : ∀ {p : Addr} {o : HO}, Apart env σ H0 F (upd (upd (upd H dx (.own x)) x (.ins C dx [])) x (.ins C dx fvs)) p o → F' p = none → Apart (putBack its svs' env) σ H0 F' H' p o := fun {p o} a fp => by
        have no : ∀ (i : Nat) sv, (putBack its svs' env)[i]? = some sv → sv.isO = true → σ[i]? ≠ some (some (.ref p)) := fun i sv e so => by
          obtain ⟨t, e1, l⟩ := s3.le.back e
          refine a.no i t e1 ?_
          cases t with
          | un => cases l; cases so
          | dat d => cases l; cases so
          | own ov => rfl
          | bor ov => rfl
        refine ⟨fp, ?_, a.h0, no⟩
        refine st.good.frame p o a.h fun k sv e b z => ?_
        obtain ⟨ox, rfl⟩ : ∃ o, sv = .bor o := by cases sv <;> first | exact ⟨_, rfl⟩ | cases b
        obtain ⟨o', q1⟩ := st.rob k _ e
        have hi : k < its.length := by rw [← svs_len env its]; exact (List.getElem?_eq_some_iff.mp q1).1
        obtain ⟨v, w1, w2⟩ := its_at h (k := k) (it := its[k]) (by simp [hi])
        cases hit : its[k] with
        | d y => rw [hit] at w2; rw [q1] at w2; cases w2.2
        | r j =>
          rw [hit] at w2
          obtain ⟨z1, o2, z2, z3⟩ := w2
          rw [List.getElem?_map, w1] at z
          have : v = .ref p := by simpa using z
          subst this
          cases e1 : env[j]? with
          | none => rw [e1] at z2; cases z2
          | some s1 =>
            rw [e1] at z2
            exact a.no j s1 e1 (by cases s1 <;> first | rfl | cases z2) z1
      refine ⟨s3, no3 a3 fx, no3 (o := .own x) ⟨a1.f, ?_, a1.h0, a1.no⟩ ?_⟩
      · rw [upd_upd, upd_ne ne]; exact a1.h
      · cases e : F' dx with
        | none => rfl
        | some u =>
          have := st.old dx u (by rw [upd_upd, upd_ne ne, upd_same]; simp) e
          rw [a1.f] at this; cases this
    refine ⟨x, dx, _, F, svsOf env its, rfl, upd_same, a2.f, hh, svs_noOwn _ _, nx, ?_⟩
    cases e : fn (svsOf env its) with
    | no => rw [e] at q; exact q
    | ok fs svs' =>
      rw [e] at q
      intro F' H' fvs st fx hfs
      obtain ⟨s3, b1, b2⟩ := key st fx
      have s4 := s3.good.hold b2
      have b1' : Apart (putBack its svs' env) σ H0 (upd F' dx (.own x)) H' x (.ins C dx fvs) := ⟨by rw [upd_ne (Ne.symm ne)]; exact b1.f, b1.h, b1.h0, b1.no⟩
      have s5 := s4.good.hold b1'
      refine ⟨rfl, hk _ _ _ _ (q _ _ ((s3.trans s4).trans s5)) (.ref x) ?_⟩
      simp only [Rp]
      refine ⟨x, dx, C, fvs, rfl, hC, upd_same, ?_, hfs.1, RpL.mono (s4.same.trans s5.same) _ _ hfs.2⟩
      rw [upd_ne ne, upd_same]
    | ex x0 svs' =>
      rw [e] at q
      intro F' H' cl d fvs st hx
      have fx : F' x = none := by
        cases e : F' x with
        | none => rfl
        | some u =>
          have := st.old x u (by rw [upd_same]; simp) e
          rw [a2.f] at this; cases this
      obtain ⟨s3, b1, b2⟩ := key st fx
      exact q _ _ _ _ s3 hx
  · exact q.elim
theorem callOk_mk {cn : Str} {fn : List SV → Out (List (Str × D))} {gV : List V → List V → List V} (hC : c.cm cn = some C) : CallOk c W (mkCall cn fn) gV fun σ => spMake C (spI c C fn) gV (W σ) :=
  ⟨fun H0 F H env σ Q its vs zs g h q => g.make hC rfl h q fun d e F' H' h => h⟩
end
end DL

/-! ==== DL14 -/
/-! DL14: == and != by an own __eq__ -/
namespace PySem.W
open PySem PyProof.Rows
section
variable {prog : Program} {w : World} {A A₀ : Around} {E : Value → Shared → Prop} {s : Shared} {K : Frag} {x C L f : Addr} {h₀ : Heap} {m : Str → Option Value} {ox : Obj} {od : Option Obj} {name : Str} {b tb : Value}
theorem ifBoundB_dl {M : Model} {id : String} {args : List Value} {Q : Option Value → Shared → Prop} (X : K.In s.heap) (I : InstAt s.heap x ox C od) (hs : findIn K (.ref C) name = some (some (.builtin id))) (hbd : ∀ self, bindSpecial (.builtin id) self = pure (.builtin id, [self]))
    (h : wpAny M A (call (.builtin id) (.ref x :: args)) (fun v => Q (some v)) E s) : wpAny M A (callSpecialIfBound? (.ref x) name args) Q E s := by
  simp only [callSpecialIfBound?, bindSpecialIfBound?]
  refine wpAny_holding (wpAny_bind (wpAny_bind (wpAny_bind (I.type.here ((looks_findIn X hs).here ?_)))))
  refine wpAny_bind (wpAny_askSetting (wpAny_ite ?_))
  have fin : wpAny M A (call (.builtin id) ([.ref x] ++ args) >>= fun v => pure (some v)) Q E s := wpAny_bind (wpAny_mono h (fun v s' h' => wpAny_pure h') fun _ _ h' => h')
  have bd : Looks M s.heap (bindSpecial (.builtin id) (.ref x)) (.builtin id, [.ref x]) := Looks.of_pure (hbd _)
  split
  · exact wpAny_bind (bd.here (wpAny_pure (by exact fin)))
  · exact wpAny_tryCatch (wpAny_bind (bd.here (wpAny_pure (by exact fin))))
theorem objNe_dl {y : Addr} (X : K.In s.heap) (I : InstAt s.heap x ox C od) (hs : findIn K (.ref C) "__eq__" = some (some (.ref f))) (hf : isFn K (.ref f) = true) (hu : A.units < cLine) {Q : Fin → Shared → Prop}
    (hcall : wpAny (model prog w) A (call (.ref f) [.ref x, .ref y]) (fun v s' => ∃ b, v = .bool b ∧ Q (.done (.ret (.bool (!b)))) s') E s) :
    wpAny (model prog w) A (Builtin.«object.__ne__» ⟨[.ref x, .ref y], []⟩) Q E s := by
  obtain ⟨h, g, d, t, os⟩ := s
  unfold Builtin.«object.__ne__»
  repeat (first
    | with_reducible refine wpAny_cRoomFor hu ?_
    | (refine wpAny_bind (m := callSpecialIfBound? (.ref x) (Str.ofString "__eq__") [.ref y])
        (ifBound_K X I hs hf (wpAny_mono hcall (fun r s' hr => by
          obtain ⟨b, rfl, hq⟩ := hr
          repeat (first | exact hq | exact wpAny_pure hq | exact wpAny_truthy_bool hq | (refine wpAny_bind (m := truthy (.bool _)) (wpAny_truthy_bool ?_)) | wp_step)) fun _ _ e => e)))
    | wp_step)
theorem cmpNe_dl {y : Addr} {oy : Obj} {ody : Option Obj} (X : K.In s.heap) (I : InstAt s.heap x ox C od) (J : InstAt s.heap y oy C ody) (hn : findIn K (.ref C) "__ne__" = some (some (.builtin "object.__ne__"))) (hs : findIn K (.ref C) "__eq__" = some (some (.ref f))) (hf : isFn K (.ref f) = true)
    (ho : mroIn K C (.type "object") = some true) (hu : A.units + 1 < cLine) {Q : Value → Shared → Prop}
    (hcall : wpAny (model prog w) A.in1 (call (.ref f) [.ref x, .ref y]) (fun v s' => ∃ b, v = .bool b ∧ Q (.bool (!b)) s') E s) : wpAny (model prog w) A (richCompare .NotEq (.ref x) (.ref y)) Q E s := by
  have one : wpAny (model prog w) A (tryCompare (.ref x) "__ne__" (.ref y)) (fun r s' => ∃ v, r = some v ∧ Q v s') E s := by
    simp only [tryCompare]
    refine wpAny_bind (ifBoundB_dl X I hn (F.cmp_object.ne.bind) (wpAny_call (codeAny_call_builtin F.cmp_object.ne.plain F.cmpEntry_ne
      (check_slot F.cmpKind_ne F.cmpSplit_ne (I.type.andThen (looks_subIn X ho)) (F.cmpArgs_ne _ _) (objNe_dl (A := A.in1) X I hs hf hu (wpAny_mono hcall (fun v s' hv => ?_) fun _ _ e => e))))))
    obtain ⟨b, rfl, hq⟩ := hv
    first | exact ⟨b, rfl, wpAny_pure ⟨_, rfl, hq⟩⟩ | exact ⟨b, rfl, wpAny_pure (wpAny_pure ⟨_, rfl, hq⟩)⟩ | exact ⟨b, rfl, _, rfl, hq⟩
  unfold richCompare
  simp only [oneThing_ref]
  refine wpAny_holding (wpAny_bind (wpAny_cRoomFor (Nat.lt_of_succ_lt hu) ?_))
  refine wpAny_bind (I.type.here (wpAny_bind (J.type.here ?_)))
  split
  · rename_i q
    simp at q
  · refine wpAny_bind (wpAny_pure ?_)
    simp only [Bool.false_eq_true, if_false]
    refine wpAny_bind (wpAny_mono one (fun r s' z => ?_) fun _ _ e => e)
    obtain ⟨v, rfl, hq⟩ := z
    exact wpAny_pure hq
end
end PySem.W

/-! ==== DL15 -/
/-! DL15: == and != of data and of instances -/
namespace DL
open PySem PySem.Spec PyProof.Rows L2

section
variable {X : Cx} {CX : CXT} {k : Nat} {f C : Addr} {fd : FuncData} {ps : List Str} {sp : L2.Sp} {E : XK}
def rOwn (C : Addr) (sp : L2.Sp) (E : XK) (n : Bool) : R2 := fun x y H Q => ∃ a b dx dy fs gs, x = .ref a ∧ y = .ref b ∧ H a = some (.ins C dx fs) ∧ H b = some (.ins C dy gs) ∧ sp [x, y] H (fun v H' => ∃ bb, v = .bl bb ∧ Q (.bl (if n then !bb else bb)) H') E
theorem op_ownEq (F : FnG X.prog X.w X.K X.mg X.base CX k f fd ps sp) (hr : Room k X.A) (gd : X.A.guards = some []) (hb : Binds X.K fd ps []) (hx : Passes CX X E) (hs : PySem.W.findIn X.K (.ref C) "__eq__" = some (some (.ref f))) (hf : PySem.W.isFn X.K (.ref f) = true) :
    OpR X (compareOp .Eq) (rOwn C sp E false) := by
  intro pins s σ H x y v u Q I rx ry d
  obtain ⟨a, b, dx, dy, fs, gs, rfl, rfl, ha, hb', hsp⟩ := d
  obtain rfl : v = Value.ref a := rx
  obtain rfl : u = Value.ref b := ry
  show wpAny (model X.prog X.w) X.A (richCompare .Eq (.ref a) (.ref b)) (EP X pins σ Q) X.xe s
  obtain ⟨mA, J, _⟩ := ins_get I.hok ha
  obtain ⟨mB, J', _⟩ := ins_get I.hok hb'
  obtain ⟨od, J, _⟩ := J.look
  obtain ⟨od', J', _⟩ := J'.look
  obtain ⟨m, hF⟩ := I.fr
  refine PySem.W.cmp_K (op := .Eq) (tb := .ref C) hr.units0 hF I.ok.mod.kin J J'.type (by simp [PySem.W.notFirst]) hs hf ?_
  have hl := F.len _ _ _ _ hsp
  have r2 : Vals [V.ref a, V.ref b] [Value.ref a, Value.ref b] := .cons rfl (.cons rfl .nil)
  refine wpAny_call (codeAny_mono (F.run X.A X.stack s H ⟨[.ref a, .ref b], []⟩ [.ref a, .ref b] [.ref a, .ref b] _ E hr gd I.env0 (by
    have := hb s [.ref a, .ref b] I.kIn (by simpa using hl)
    simpa using this) r2 hsp) fun r s' hq => ?_)
  cases r with
  | error e => exact hx pins σ H s e s' I hq
  | ok fl =>
    cases fl with
    | ret w =>
      obtain ⟨z, H', I', rz, bb, ez, q⟩ := I.after hq
      subst ez
      obtain rfl : w = Value.bool bb := rz
      exact ⟨.bl bb, H', I', rfl, by simpa using q⟩
    | next => exact False.elim hq
    | brk => exact False.elim hq
    | cont => exact False.elim hq
theorem op_ownNe (F : FnG X.prog X.w X.K X.mg X.base CX k f fd ps sp) (hr : Room (k + 1) X.A) (gd : X.A.guards = some []) (hb : Binds X.K fd ps []) (hx : Passes CX X E) (hs : PySem.W.findIn X.K (.ref C) "__eq__" = some (some (.ref f))) (hf : PySem.W.isFn X.K (.ref f) = true)
    (hn : PySem.W.findIn X.K (.ref C) "__ne__" = some (some (.builtin "object.__ne__"))) (ho : PySem.W.mroIn X.K C (.type "object") = some true) :
    OpR X (compareOp .NotEq) (rOwn C sp E true) := by
  intro pins s σ H x y v u Q I rx ry d
  obtain ⟨a, b, dx, dy, fs, gs, rfl, rfl, ha, hb', hsp⟩ := d
  obtain rfl : v = Value.ref a := rx
  obtain rfl : u = Value.ref b := ry
  show wpAny (model X.prog X.w) X.A (richCompare .NotEq (.ref a) (.ref b)) (EP X pins σ Q) X.xe s
  obtain ⟨mA, J, _⟩ := ins_get I.hok ha
  obtain ⟨mB, J', _⟩ := ins_get I.hok hb'
  obtain ⟨od, J, _⟩ := J.look
  obtain ⟨od', J', _⟩ := J'.look
  refine PySem.W.cmpNe_dl I.kIn J J' hn hs hf ho (hu_of hr) ?_
  have hl := F.len _ _ _ _ hsp
  have r2 : Vals [V.ref a, V.ref b] [Value.ref a, Value.ref b] := .cons rfl (.cons rfl .nil)
  refine wpAny_call (codeAny_mono (F.run X.A.in1 X.stack s H ⟨[.ref a, .ref b], []⟩ [.ref a, .ref b] [.ref a, .ref b] _ E hr.in1 gd I.env0.in1 (by
    have := hb s [.ref a, .ref b] I.kIn (by simpa using hl)
    simpa using this) r2 hsp) fun r s' hq => ?_)
  cases r with
  | error e => exact hx pins σ H s e s' I hq
  | ok fl =>
    cases fl with
    | ret w =>
      obtain ⟨z, H', I', rz, bb, ez, q⟩ := I.after hq
      subst ez
      obtain rfl : w = Value.bool bb := rz
      exact ⟨bb, rfl, .bl (!bb), H', I', rfl, by simpa using q⟩
    | next => exact False.elim hq
    | brk => exact False.elim hq
    | cont => exact False.elim hq
theorem op_or {g : Value → Value → Sem Value} {r r' : R2} (h : OpR X g r) (h' : OpR X g r') : OpR X g fun x y H Q => r x y H Q ∨ r' x y H Q := fun pins s σ H x y v u Q I rx ry d => d.elim (h pins s σ H x y v u Q I rx ry) (h' pins s σ H x y v u Q I rx ry)
end
section
variable {c : Kc} {X : Cx} {C : Addr}
/-- == (n: !=) of data, of instances of the class cn by what its __eq__ tells -/
def eqA (cn : Str) (fn : List SV → Out D) (n : Bool) (x y : D) (e : Env) : Out D := match x, y with
  | .obj c1 n1 l1, .obj c2 n2 l2 => if c1 = cn ∧ c2 = cn then (match fn [.dat (.obj c1 n1 l1), .dat (.obj c2 n2 l2)] with
      | .ok (.bl b) _ => .ok (.bl (if n then !b else b)) e
      | _ => .no) else .no
  | x, y => pur2 (eqF n) x y e
theorem prim_eqA {cn : Str} {fn : List SV → Out D} {n : Bool} {E : XK} {r : R2} (hC : c.cm cn = some C) (hr : Prim2 c r (pur2 (eqF n))) : Prim2 c (fun x y H Q => r x y H Q ∨ rOwn C (spF c fn) E n x y H Q) (eqA cn fn n) := fun W H0 F H env σ x y v u Q g hx hy q => by
  unfold eqA at q
  split at q
  · rename_i c1 n1 l1 c2 n2 l2
    split at q
    · rename_i hh
      obtain ⟨h1, h2⟩ := hh
      subst h1
      subst h2
      right
      have hx0 := hx
      have hy0 := hy
      simp only [Rp] at hx hy
      obtain ⟨a, dx, C1, fs, rfl, k1, w1, _⟩ := hx
      obtain ⟨b, dy, C2, gs, rfl, k2, w2, _⟩ := hy
      rw [hC] at k1 k2; cases k1; cases k2
      refine ⟨a, b, dx, dy, fs, gs, rfl, rfl, g.le _ _ w1, g.le _ _ w2, ?_⟩
      have hi : ItsOk c F env σ [.d (.obj c2 n1 l1), .d (.obj c2 n2 l2)] [.ref a, .ref b] := ⟨_, _, rfl, hx0, _, _, rfl, hy0, rfl⟩
      refine ⟨F, _, g.handed hi List.nodup_nil, rfl, ?_⟩
      show match fn [.dat (.obj c2 n1 l1), .dat (.obj c2 n2 l2)] with | .no => False | .ok d svs' => _ | .ex x svs' => _
      cases e : fn [.dat (.obj c2 n1 l1), .dat (.obj c2 n2 l2)] with
      | no => rw [e] at q; exact q.elim
      | ex x svs' => rw [e] at q; exact q.elim
      | ok d svs' =>
        rw [e] at q
        cases d with
        | bl bb =>
          intro F' H' st v hv
          simp only [Rp] at hv
          have := g.called hi List.nodup_nil st
          have e2 : putBack [It.d (.obj c2 n1 l1), It.d (.obj c2 n2 l2)] svs' env = env := by rcases svs' with _ | ⟨s, _ | ⟨t, r⟩⟩ <;> simp [putBack]
          rw [e2] at this
          exact ⟨bb, hv, q F' H' this _ (by simp only [Rp])⟩
        | _ => exact q.elim
    · exact q.elim
  · exact .inl (hr W H0 F H env σ _ _ v u Q g hx hy q)
end
end DL

/-! ==== DL16 -/
/-! DL16: new objects of one's own, assignments side by side -/
namespace DL
open PySem PySem.Spec PyProof.Rows L2

/-- a new object that nobody knows yet -/
def NewO (c : Kc) (H0 F : Hp) (env : Env) (σ : L2.St) (H : Hp) (o : OV) (v : V) : Prop := ∃ p ho, v = .ref p ∧ Apart env σ H0 F H p ho ∧ RO c.K c.cm F H p o
def tNew (c : Kc) (W : WX) (r : Env → Out OV) : TE := fun σ H Q => ∃ H0 F env, c.Good H0 F env σ H ∧ Res c W H0 F env σ (r env) fun o e F' H' => ∀ v, NewO c H0 F' e σ H' o v → Q v H'
def newK (e : Env) : Out OV := .ok (.K [] []) e
def newT (e : Env) : Out OV := .ok (.T [] []) e
def newL (r : Env → Out (List D)) (e : Env) : Out OV := (r e).bind fun l e1 => .ok (.L l) e1
section
variable {c : Kc} {W : WX} {X : Cx} {H0 F F' H H' : Hp} {env env' : Env} {σ σ' : L2.St}
theorem dl_newL {e : Expr} {r : Env → Out (List D)} (h : PE X e (tF c W r)) : PE X e (tNew c W (newL r)) := h.imp fun σ H Q ⟨H0, F, env, g, q⟩ =>
  ⟨H0, F, env, g, q.seq fun l e1 F1 H1 s1 q1 v ⟨p, xs, hv, ap, rl⟩ => q1.ret s1.good v ⟨p, _, hv, ap, xs, ap.h, rl⟩⟩
theorem dl_newK {e : Expr} (h : PE X e tDNewK) : PE X e (tNew c W newK) := h.imp fun σ H Q ⟨H0, F, env, g, q⟩ p hp => by
  obtain ⟨g2, ap⟩ := g.lay (o := .dK []) hp
  exact q F _ ⟨Same.refl _, EnvLe.refl _, g2, fun _ _ _ e => e⟩ _ ⟨p, _, rfl, ap, [], ap.h, rfl, .nil⟩
theorem dl_newT {e : Expr} (h : PE X e tDNewT) : PE X e (tNew c W newT) := h.imp fun σ H Q ⟨H0, F, env, g, q⟩ p hp => by
  obtain ⟨g2, ap⟩ := g.lay (o := .dT []) hp
  exact q F _ ⟨Same.refl _, EnvLe.refl _, g2, fun _ _ _ e => e⟩ _ ⟨p, _, rfl, ap, [], ap.h, rfl, .nil⟩
/-- a name is given an own object -/
def asgOV (i : Nat) (r : Env → Out OV) (e : Env) : Out Fl := (r e).bind fun o e1 => match e1[i]? with
  | some sv => if sv.isB = true then .no else .ok .nx (e1.set i (.own o))
  | none => .no
theorem dl_asgOV {st : Stmt} {i : Nat} {r : Env → Out OV} (h : PS X st (tAsg (tNew c W r) (gName i))) : PS X st (tS c W (asgOV i r)) := h.imp fun D σ H ⟨H0, F, env, g, q⟩ =>
  ⟨H0, F, env, g, q.seqE fun l e F' H' st k v ⟨p, ho, hv, ap, rl⟩ => by
    subst hv
    cases he : e[i]? with
    | none => rw [he] at k; exact k.elim
    | some sv =>
      rw [he] at k
      by_cases hb : sv.isB = true
      · have k : RS c W H0 F' e σ (if sv.isB = true then .no else .ok .nx (e.set i (.own l))) (finD c D) := k
        rw [if_pos hb] at k; exact k.elim
      · have k : RS c W H0 F' e σ (if sv.isB = true then .no else .ok .nx (e.set i (.own l))) (finD c D) := k
        rw [if_neg hb] at k
        exact k _ _ _ (st.good.ownStep he hb ap rl)⟩

/-! ### an argument list in which new objects may stand -/
inductive M where
  | d (x : D)
  | f (o : OV)
def NotF (p : Addr) : List M → List V → Prop
  | .f _ :: ms, v :: r => v ≠ .ref p ∧ NotF p ms r
  | .d _ :: ms, _ :: r => NotF p ms r
  | _, _ => True
def MixL (c : Kc) (H0 F : Hp) (env : Env) (σ : L2.St) (H : Hp) : List M → List V → Prop
  | [], vs => vs = []
  | .d x :: ms, vs => ∃ v r, vs = v :: r ∧ Rp c.K c.cm F x v ∧ MixL c H0 F env σ H ms r
  | .f o :: ms, vs => ∃ p ho r, vs = .ref p :: r ∧ Apart env σ H0 F H p ho ∧ RO c.K c.cm F H p o ∧ MixL c H0 F env σ H ms r ∧ NotF p ms r
theorem mix_apart : ∀ {ms : List M} {vs : List V} {p : Addr}, (∀ q ho, Apart env σ H0 F H q ho → q ≠ p) → MixL c H0 F env σ H ms vs → NotF p ms vs
  | [], _, _, _, _ => trivial
  | .d _ :: ms, _, _, h, ⟨v, r, e, _, t⟩ => by subst e; exact mix_apart (ms := ms) h t
  | .f _ :: ms, _, _, h, ⟨q, ho, r, e, ap, _, t, _⟩ => by subst e; exact ⟨fun z => h q ho ap (by injection z), mix_apart (ms := ms) h t⟩
theorem mix_to {H0' : Hp} {env' : Env} {σ' : L2.St} : ∀ {ms : List M} {vs : List V}, (∀ q ho, Apart env σ H0 F H q ho → (∀ P : Addr → Prop, True → True) → Apart env' σ' H0' F H q ho) → MixL c H0 F env σ H ms vs → MixL c H0' F env' σ' H ms vs
  | [], _, _, h => h
  | .d _ :: ms, _, f, ⟨v, r, e, h, t⟩ => ⟨v, r, e, h, mix_to f t⟩
  | .f _ :: ms, _, f, ⟨q, ho, r, e, ap, ro, t, n⟩ => ⟨q, ho, r, e, f q ho ap fun _ _ => trivial, ro, mix_to f t, n⟩
theorem mix_ne {env' : Env} {σ' : L2.St} {p : Addr} (f : ∀ q ho, q ≠ p → Apart env σ H0 F H q ho → Apart env' σ' H0 F H q ho) : ∀ {ms : List M} {vs : List V}, NotF p ms vs → MixL c H0 F env σ H ms vs → MixL c H0 F env' σ' H ms vs
  | [], _, _, h => h
  | .d _ :: ms, _, n, ⟨v, r, e, h, t⟩ => by subst e; exact ⟨v, r, rfl, h, mix_ne f (ms := ms) n t⟩
  | .f _ :: ms, _, n, ⟨q, ho, r, e, ap, ro, t, m⟩ => by subst e; exact ⟨q, ho, r, rfl, f q ho (fun z => n.1 (by rw [z])) ap, ro, mix_ne f (ms := ms) n.2 t, m⟩
def tM (c : Kc) (W : WX) (r : Env → Out (List M)) : TA := fun σ H Q => ∃ H0 F env, c.Good H0 F env σ H ∧ Res c W H0 F env σ (r env) fun ms e F' H' => ∀ vs, MixL c H0 F' e σ H' ms vs → Q vs H'
def nilM (e : Env) : Out (List M) := .ok [] e
def consMd (ra : Env → Out D) (rr : Env → Out (List M)) (e : Env) : Out (List M) := (ra e).bind fun x e1 => (rr e1).bind fun xs e2 => .ok (.d x :: xs) e2
def consMf (ra : Env → Out OV) (rr : Env → Out (List M)) (e : Env) : Out (List M) := (ra e).bind fun o e1 => (rr e1).bind fun xs e2 => .ok (.f o :: xs) e2
theorem tM_nil : PA X [] (tM c W nilM) := pa_nil.imp fun σ H Q ⟨H0, F, env, g, q⟩ => q.ret g [] rfl
theorem tM_d {e : Expr} {es : List Expr} {ra : Env → Out D} {rr : Env → Out (List M)} (h : PA X (e :: es) (tCons (tD c W ra) (tM c W rr))) : PA X (e :: es) (tM c W (consMd ra rr)) := h.imp fun σ H Q ⟨H0, F, env, g, q⟩ =>
  ⟨H0, F, env, g, q.seq fun x e1 F1 H1 s1 q1 v hv => ⟨H0, F1, e1, s1.good, q1.seq fun xs e2 F2 H2 s2 q2 vs hvs => q2.ret s2.good (v :: vs) ⟨v, vs, rfl, Rp.mono s2.same _ _ hv, hvs⟩⟩⟩
theorem Apart.unbase {p : Addr} {o : HO} (g : c.Good H0 F env σ H) (g' : c.Good H0 F' env' σ H') (a : Apart env' σ (rebase env σ H) F' H' p o) : Apart env' σ H0 F' H' p o := by
  refine ⟨a.f, a.h, ?_, a.no⟩
  cases e : H0 p with
  | none => rfl
  | some u => exact absurd a.h0 (g.base_some (by rw [e]; simp))
theorem tM_f {e : Expr} {es : List Expr} {ra : Env → Out OV} {rr : Env → Out (List M)} (h : PA X (e :: es) (tCons (tNew c W ra) (tM c W rr))) : PA X (e :: es) (tM c W (consMf ra rr)) := h.imp fun σ H Q ⟨H0, F, env, g, q⟩ =>
  ⟨H0, F, env, g, q.seq fun o e1 F1 H1 s1 q1 v ⟨p, ho, hv, ap, ro⟩ => by
    subst hv
    refine ⟨rebase e1 σ H1, F1, e1, s1.good.rebased, ((q1.bind).rebased s1.good).mono fun xs e2 F2 H2 s2 ⟨q2, s2a, s2r⟩ vs hvs => ?_⟩
    have ap2 := ap.after s1.good s2r
    have hb : rebase e1 σ H1 p = some ho := by rw [rebase_ne fun i ov e => ap.no i _ e rfl]; exact ap.h
    refine q2.ret s2a.good (.ref p :: vs) ⟨p, ho, vs, rfl, ap2, ?_, mix_to (fun q ho' a _ => a.unbase s1.good s2a.good) hvs, mix_apart (fun q ho' a z => ?_) hvs⟩
    · refine ro.mono s2a.same ?_
      rw [ap2.h, ap.h]
    · subst z; rw [a.h0] at hb; cases hb⟩

/-! ### assignments side by side -/
def setAll : List Nat → List M → Env → Option Env
  | [], [], e => some e
  | i :: is, m :: ms, e => (match e[i]? with
    | some sv => if sv.isB = true then none else setAll is ms (e.set i (match m with | .d x => .dat x | .f o => .own o))
    | none => none)
  | _, _, _ => none
def setV : List Nat → List V → L2.St → L2.St
  | i :: is, v :: vs, σ => setV is vs (σ.set i (some v))
  | _, _, σ => σ
theorem Good.datStep {i : Nat} {sv : SV} {d : D} {v : V} (g : c.Good H0 F env σ H) (e : env[i]? = some sv) (nb : ¬ sv.isB = true) (r : Rp c.K c.cm F d v) : StepS c H0 F env σ F (env.set i (.dat d)) (σ.set i (some v)) H := by
  refine ⟨Same.refl _, g.set (fun t e1 => by rw [e] at e1; cases e1; simpa using nb) r, fun _ _ _ e => e, by simp, fun j x ej => ?_, fun j x ej => ?_⟩
  · have hj : j ≠ i := fun z => by subst z; rw [e] at ej; cases ej; exact nb rfl
    exact ⟨⟨x, by rw [List.getElem?_set_ne (Ne.symm hj)]; exact ej⟩, List.getElem?_set_ne (Ne.symm hj)⟩
  · by_cases hj : j = i
    · subst hj
      rw [List.getElem?_set_self (by have := (List.getElem?_eq_some_iff.mp e).1; exact this)] at ej
      cases ej
    · exact ⟨x, by rwa [List.getElem?_set_ne (Ne.symm hj)] at ej⟩
theorem setAll_ok : ∀ {is : List Nat} {ms : List M} {e e2 : Env} {vs : List V} {σ : L2.St}, c.Good H0 F e σ H → MixL c H0 F e σ H ms vs → setAll is ms e = some e2 → vs.length = is.length ∧ StepS c H0 F e σ F e2 (setV is vs σ) H
  | [], [], e, e2, vs, σ, g, h, q => by
    rw [show vs = [] from h]
    cases q
    exact ⟨rfl, StepS.refl g⟩
  | [], _ :: _, _, _, _, _, _, _, q => by cases q
  | _ :: _, [], _, _, _, _, _, _, q => by cases q
  | i :: is, .d x :: ms, e, e2, vs, σ, g, ⟨v, r, ev, h, t⟩, q => by
    subst ev
    unfold setAll at q
    cases he : e[i]? with
    | none => rw [he] at q; cases q
    | some sv =>
      rw [he] at q
      by_cases hb : sv.isB = true
      · dsimp only at q; rw [if_pos hb] at q; cases q
      · dsimp only at q
        rw [if_neg hb] at q
        have s1 := g.datStep he hb h
        have t' : MixL c H0 F (e.set i (.dat x)) (σ.set i (some v)) H ms r := mix_to (fun p ho a _ => ⟨a.f, a.h, a.h0, fun j tv ej so => by
          by_cases hj : j = i
          · subst hj
            rw [List.getElem?_set_self (List.getElem?_eq_some_iff.mp he).1] at ej
            cases ej; cases so
          · rw [List.getElem?_set_ne (Ne.symm hj)] at ej ⊢; exact a.no j tv ej so⟩) t
        obtain ⟨l, s2⟩ := setAll_ok s1.good t' q
        exact ⟨by simp [l], s1.trans s2⟩
  | i :: is, .f o :: ms, e, e2, vs, σ, g, ⟨p, ho, r, ev, ap, ro, t, n⟩, q => by
    subst ev
    unfold setAll at q
    cases he : e[i]? with
    | none => rw [he] at q; cases q
    | some sv =>
      rw [he] at q
      by_cases hb : sv.isB = true
      · dsimp only at q; rw [if_pos hb] at q; cases q
      · dsimp only at q
        rw [if_neg hb] at q
        have s1 := g.ownStep he hb ap ro
        have t' : MixL c H0 F (e.set i (.own o)) (σ.set i (some (.ref p))) H ms r := mix_ne (fun p' ho' ne a => ⟨a.f, a.h, a.h0, fun j tv ej so => by
          by_cases hj : j = i
          · subst hj
            rw [List.getElem?_set_self (by rw [g.len]; exact (List.getElem?_eq_some_iff.mp he).1)]
            intro z
            have := Option.some.inj (Option.some.inj z)
            injection this with this
            exact ne this.symm
          · rw [List.getElem?_set_ne (Ne.symm hj)] at ej ⊢; exact a.no j tv ej so⟩) n t
        obtain ⟨l, s2⟩ := setAll_ok s1.good t' q
        exact ⟨by simp [l], s1.trans s2⟩
def parS (is : List Nat) (rm : Env → Out (List M)) (e : Env) : Out Fl := (rm e).bind fun ms e1 => match setAll is ms e1 with
  | some e2 => .ok .nx e2
  | none => .no
def tParN (is : List Nat) (ta : TA) : TS := fun D σ H => ta σ H fun vs H1 => vs.length = is.length ∧ D.nx (setV is vs σ) H1
theorem dl_parN {st : Stmt} {is : List Nat} {rm : Env → Out (List M)} (h : PS X st (tParN is (tM c W rm))) : PS X st (tS c W (parS is rm)) := h.imp fun D σ H ⟨H0, F, env, g, q⟩ =>
  ⟨H0, F, env, g, q.seqE fun ms e F' H' st k vs hvs => by
    cases hs : setAll is ms e with
    | none => rw [hs] at k; exact k.elim
    | some e2 =>
      rw [hs] at k
      obtain ⟨l, s2⟩ := setAll_ok st.good hvs hs
      exact ⟨l, k _ _ _ s2⟩⟩
theorem _root_.L2.PS.imp' {X : Cx} {e : Stmt} {t t' : TS} (h : PS X e t) (i : ∀ D σ H, t' D σ H → t D σ H) : PS X e t' := h.imp i
theorem dl_par2 {st : Stmt} {i j : Nat} {rm : Env → Out (List M)} (h : PS X st (tPar i j (tM c W rm))) : PS X st (tS c W (parS [i, j] rm)) := dl_parN (h.imp fun D σ H ⟨H0, F, env, g, q⟩ => ⟨H0, F, env, g, q.mono fun ms e F' H' s k vs hvs => by
  obtain ⟨l, q⟩ := k vs hvs
  match vs, l with
  | [v, w], _ => exact ⟨v, w, rfl, q⟩⟩)
theorem dl_par3 {st : Stmt} {i j l : Nat} {rm : Env → Out (List M)} (h : PS X st (tPar3 i j l (tM c W rm))) : PS X st (tS c W (parS [i, j, l] rm)) := dl_parN (h.imp fun D σ H ⟨H0, F, env, g, q⟩ => ⟨H0, F, env, g, q.mono fun ms e F' H' s k vs hvs => by
  obtain ⟨l, q⟩ := k vs hvs
  match vs, l with
  | [v, w, u], _ => exact ⟨v, w, u, rfl, q⟩⟩)
/-- a tuple is built and taken apart -/
def gNames : List Nat → TGs
  | [] => gNil
  | i :: is => gCons (gName i) (gNames is)
theorem gNames_ok : ∀ {is : List Nat} {vs : List V} {σ : L2.St} {H : Hp} {Q : L2.St → Hp → Prop}, vs.length = is.length → Q (setV is vs σ) H → gNames is vs σ H Q
  | [], [], _, _, _, _, q => ⟨rfl, q⟩
  | [], _ :: _, _, _, _, l, _ => by cases l
  | _ :: _, [], _, _, _, l, _ => by cases l
  | i :: is, v :: vs, σ, H, Q, l, q => ⟨v, vs, rfl, gNames_ok (is := is) (by simpa using l) q⟩
def parT (is : List Nat) (rm : Env → Out (List M)) (e : Env) : Out Fl := (rm e).bind fun ms e1 => if ms.length ≤ sizeLine then (match setAll is ms e1 with
  | some e2 => .ok .nx e2
  | none => .no) else .no
theorem mix_len : ∀ {ms : List M} {vs : List V}, MixL c H0 F env σ H ms vs → vs.length = ms.length
  | [], _, h => by rw [show _ = [] from h]; rfl
  | .d _ :: ms, _, ⟨v, r, e, _, t⟩ => by subst e; simp [mix_len t]
  | .f _ :: ms, _, ⟨p, _, r, e, _, _, t, _⟩ => by subst e; simp [mix_len t]
theorem mix_lay {p : Addr} {o : HO} (g : c.Good H0 F env σ H) (hp : H p = none) : ∀ {ms : List M} {vs : List V}, MixL c H0 F env σ H ms vs → MixL c H0 F env σ (upd H p o) ms vs
  | [], _, h => h
  | .d _ :: ms, _, ⟨v, r, e, h, t⟩ => ⟨v, r, e, h, mix_lay g hp t⟩
  | .f _ :: ms, _, ⟨q, ho, r, e, ap, ro, t, n⟩ => by
    have ne : q ≠ p := ne_of_none ap.h hp
    exact ⟨q, ho, r, e, ⟨ap.f, by rw [upd_ne ne]; exact ap.h, ap.h0, ap.no⟩, ro.mono (Same.refl _) (upd_ne ne), mix_lay g hp t, n⟩
theorem dl_parT {st : Stmt} {is : List Nat} {rm : Env → Out (List M)} {n : Nat} (hn : n = is.length) (h : PS X st (tAsg (tTup (tM c W rm)) (gTup c.K n (gNames is)))) : PS X st (tS c W (parT is rm)) := h.imp fun D σ H ⟨H0, F, env, g, q⟩ =>
  ⟨H0, F, env, g, q.seqE fun ms e F' H' st k vs hvs => by
    by_cases hz : ms.length ≤ sizeLine
    · have k : RS c W H0 F' e σ (if ms.length ≤ sizeLine then (match setAll is ms e with | some e2 => .ok .nx e2 | none => .no) else .no) (finD c D) := k
      rw [if_pos hz] at k
      cases hs : setAll is ms e with
      | none => rw [hs] at k; exact k.elim
      | some e2 =>
        rw [hs] at k
        refine ⟨by rw [mix_len hvs]; exact hz, fun p hp => ?_⟩
        obtain ⟨g2, _⟩ := st.good.lay (o := .tup vs) hp
        obtain ⟨l, s2⟩ := setAll_ok g2 (mix_lay st.good hp hvs) hs
        refine ⟨p, vs, rfl, .inl (.inl upd_same), by rw [l, hn], gNames_ok l ?_⟩
        have s0 : StepS c H0 F' e σ F' e σ (upd H' p (.tup vs)) := ⟨Same.refl _, g2, fun _ _ _ e => e, rfl, fun i o e => ⟨⟨o, e⟩, rfl⟩, fun i o e => ⟨o, e⟩⟩
        exact k _ _ _ (s0.trans s2)
    · have k : RS c W H0 F' e σ (if ms.length ≤ sizeLine then (match setAll is ms e with | some e2 => .ok .nx e2 | none => .no) else .no) (finD c D) := k
      rw [if_neg hz] at k; exact k.elim⟩
end
end DL

/-! ==== DL17 -/
/-! DL17: defs that give new lists, new lists handed in -/
namespace DL
open PySem PySem.Spec PyProof.Rows L2

section
variable (c : Kc)
/-- how such a def's statements end: not yet, or by a new list -/
def tL (W : WX) (r : Env → Out (Option (List D))) : TS := fun D σ H => ∃ H0 F env, c.Good H0 F env σ H ∧ match r env with
  | .no => False
  | .ok none e => ∀ σ' F' H', StepS c H0 F env σ F' e σ' H' → D.nx σ' H'
  | .ok (some l) e => ∀ σ' F' H' v, StepS c H0 F env σ F' e σ' H' → NewL c H0 F' e σ' H' l v → D.rt v H'
  | .ex x e => ∀ σ' F' H' cl dx, StepS c H0 F env σ F' e σ' H' → XRep c F' H' x cl dx → W σ' cl dx H'
def spL (fn : List SV → Out (List D)) : L2.Sp := fun vs H Q E => ∃ F svs, c.Good H F svs (vs.map some) H ∧ noOwn svs = true ∧ match fn svs with
  | .no => False
  | .ok l svs' => ∀ F' H' v, StepS c H F svs (vs.map some) F' svs' (vs.map some) H' → NewL c H F' svs' (vs.map some) H' l v → Q v H'
  | .ex x svs' => ∀ F' H' cl dx, StepS c H F svs (vs.map some) F' svs' (vs.map some) H' → XRep c F' H' x cl dx → E cl dx H'
end
def nilL (e : Env) : Out (Option (List D)) := .ok none e
def seqL (r1 : Env → Out Fl) (r2 : Env → Out (Option (List D))) (e : Env) : Out (Option (List D)) := match r1 e with
  | .ok .nx e1 => r2 e1
  | .ex x e1 => .ex x e1
  | _ => .no
def retL (r : Env → Out (List D)) (e : Env) : Out (Option (List D)) := (r e).bind fun l e1 => .ok (some l) e1
def ifL (rc : Env → Out Bool) (ra rb : Env → Out (Option (List D))) (e : Env) : Out (Option (List D)) := (rc e).bind fun b e1 => if b = true then ra e1 else rb e1
def thenL (r1 r2 : Env → Out (Option (List D))) (e : Env) : Out (Option (List D)) := (r1 e).bind fun o e1 => match o with
  | none => r2 e1
  | some l => .ok (some l) e1
def fnOfL (n tot : Nat) (rb : Env → Out (Option (List D))) (svs : List SV) : Out (List D) := if svs.length = n then (match rb (svs ++ List.replicate (tot - n) .un) with
    | .ok (some l) e => .ok l (backA svs e)
    | .ex x e => .ex x (backA svs e)
    | _ => .no) else .no
section
variable {c : Kc} {W : WX} {X : Cx} {H0 F F' H H' : Hp} {env env' : Env} {σ σ' : L2.St} {Q : VK} {s : Stmt} {ss : List Stmt}
theorem dl_nilL : PSs X [] (tL c W nilL) := pss_nil.imp fun D σ H ⟨H0, F, env, g, q⟩ => q σ F H (StepS.refl g)
theorem dl_seqL {r1 : Env → Out Fl} {r2 : Env → Out (Option (List D))} (h1 : PS X s (tS c W r1)) (h2 : PSs X ss (tL c W r2)) : PSs X (s :: ss) (tL c W (seqL r1 r2)) := (pss_cons h1 h2).imp fun D σ H ⟨H0, F, env, g, q⟩ => by
  refine ⟨H0, F, env, g, ?_⟩
  unfold seqL at q
  cases e1 : r1 env with
  | no => rw [e1] at q; exact q
  | ex x e => rw [e1] at q; exact q
  | ok fl e =>
    rw [e1] at q
    cases fl with
    | nx =>
      intro σ1 F1 H1 s1
      refine ⟨H0, F1, e, s1.good, ?_⟩
      dsimp only at q
      cases e2 : r2 e with
      | no => rw [e2] at q; exact q
      | ex x e => rw [e2] at q; exact fun σ2 F2 H2 cl dx s2 hx => q σ2 F2 H2 cl dx (s1.trans s2) hx
      | ok o e3 =>
        rw [e2] at q
        cases o with
        | none => exact fun σ2 F2 H2 s2 => q σ2 F2 H2 (s1.trans s2)
        | some l => exact fun σ2 F2 H2 v s2 hv => q σ2 F2 H2 v (s1.trans s2) hv
    | _ => exact q.elim
theorem dl_thenL {r1 r2 : Env → Out (Option (List D))} (h1 : PS X s (tL c W r1)) (h2 : PSs X ss (tL c W r2)) : PSs X (s :: ss) (tL c W (thenL r1 r2)) := (pss_cons h1 h2).imp fun D σ H ⟨H0, F, env, g, q⟩ => by
  refine ⟨H0, F, env, g, ?_⟩
  unfold thenL at q
  cases e1 : r1 env with
  | no => rw [e1] at q; exact q
  | ex x e => rw [e1] at q; exact q
  | ok fl e =>
    rw [e1, bind_ok] at q
    cases fl with
    | none =>
      intro σ1 F1 H1 s1
      refine ⟨H0, F1, e, s1.good, ?_⟩
      dsimp only at q
      cases e2 : r2 e with
      | no => rw [e2] at q; exact q
      | ex x e => rw [e2] at q; exact fun σ2 F2 H2 cl dx s2 hx => q σ2 F2 H2 cl dx (s1.trans s2) hx
      | ok o e3 =>
        rw [e2] at q
        cases o with
        | none => exact fun σ2 F2 H2 s2 => q σ2 F2 H2 (s1.trans s2)
        | some l => exact fun σ2 F2 H2 v s2 hv => q σ2 F2 H2 v (s1.trans s2) hv
    | some l => exact q
theorem dl_retL {r : Env → Out (List D)} (h : PS X s (tRet (tF c W r))) : PS X s (tL c W (retL r)) := h.imp fun D σ H ⟨H0, F, env, g, q⟩ => by
  refine ⟨H0, F, env, g, ?_⟩
  unfold retL at q
  cases e1 : r env with
  | no => rw [e1] at q; exact q
  | ex x e => rw [e1] at q; exact fun F' H' cl dx st hx => q σ F' H' cl dx st.toS hx
  | ok l e => rw [e1] at q; exact fun F' H' st v hv => q σ F' H' v st.toS hv
theorem dl_ifL {rc : Env → Out Bool} {ra rb : Env → Out (Option (List D))} (h : PS X s (tIfS (tT c W rc) (tL c W ra) (tL c W rb))) : PS X s (tL c W (ifL rc ra rb)) := h.imp fun D σ H ⟨H0, F, env, g, q⟩ => by
  refine ⟨H0, F, env, g, ?_⟩
  unfold ifL at q
  cases e1 : rc env with
  | no => rw [e1] at q; exact q
  | ex x e => rw [e1] at q; exact fun F' H' cl dx st hx => q σ F' H' cl dx st.toS hx
  | ok b e =>
    rw [e1, bind_ok] at q
    intro F1 H1 s1
    have key : ∀ r : Env → Out (Option (List DL.D)), (match r e with
      | .no => False
      | .ok none e => ∀ σ' F' H', StepS c H0 F env σ F' e σ' H' → D.nx σ' H'
      | .ok (some l) e => ∀ σ' F' H' v, StepS c H0 F env σ F' e σ' H' → NewL c H0 F' e σ' H' l v → D.rt v H'
      | .ex x e => ∀ σ' F' H' cl dx, StepS c H0 F env σ F' e σ' H' → XRep c F' H' x cl dx → W σ' cl dx H') → tL c W r D σ H1 := fun r q => by
      refine ⟨H0, F1, e, s1.good, ?_⟩
      cases e2 : r e with
      | no => rw [e2] at q; exact q
      | ex x e => rw [e2] at q; exact fun σ2 F2 H2 cl dx s2 hx => q σ2 F2 H2 cl dx (s1.toS.trans s2) hx
      | ok o e3 =>
        rw [e2] at q
        cases o with
        | none => exact fun σ2 F2 H2 s2 => q σ2 F2 H2 (s1.toS.trans s2)
        | some l => exact fun σ2 F2 H2 v s2 hv => q σ2 F2 H2 v (s1.toS.trans s2) hv
    cases b with
    | true => exact key ra q
    | false => exact key rb q
theorem bodyL_of {vs : List V} {N : List Str} {n : Nat} {rb : Env → Out (Option (List D))} {fn : List SV → Out (List D)} {Q : VK} {E : XK} (hW : W = fun _ => E) (hn : vs.length = n)
    (hf : ∀ svs, fn svs ≠ .no → fnOfL n N.length rb svs = fn svs) (h : spL c fn vs H Q E) : tL c W rb { nx := fun _ H' => Q .non H', rt := Q } (L2.start N vs) H := by
  subst hW
  obtain ⟨F, svs, g, no, h⟩ := h
  have nn : fn svs ≠ .no := fun e => by rw [e] at h; exact h
  have hl : svs.length = n := by rw [← hn]; simpa using g.len.symm
  rw [← hf svs nn] at h
  unfold fnOfL at h
  rw [if_pos hl] at h
  refine ⟨H, F, _, g.args N (N.length - n) (by rw [hn]), ?_⟩
  cases hr : rb (svs ++ List.replicate (N.length - n) .un) with
  | no => rw [hr] at h; exact h
  | ex x e =>
    rw [hr] at h
    exact fun σ' F' H' cl dx st => h F' H' cl dx (st.toArgs g no)
  | ok o e =>
    rw [hr] at h
    cases o with
    | none => exact h.elim
    | some l =>
      intro σ' F' H' v st ⟨p, xs, hv, ap, rl⟩
      have sa := st.toArgs g no
      refine h F' H' v sa ⟨p, xs, hv, ⟨ap.f, ap.h, ap.h0, fun i sv e1 so z => ?_⟩, rl⟩
      obtain ⟨t, e2, k⟩ : ∃ t, svs[i]? = some t ∧ t.isO = true := by
        cases sv with
        | un => cases so
        | dat d => cases so
        | bor o => obtain ⟨o', q⟩ := sa.rob i o e1; exact ⟨_, q, rfl⟩
        | own o => 
          have hi : i < svs.length := by rw [← backA_len svs e]; exact (List.getElem?_eq_some_iff.mp e1).1
          by_cases hie : i < e.length
          · have := backA_at (svs := svs) (e := e) (s := svs[i]) (i := i) (by simp [hi]) hie
            rw [e1] at this
            split at this
            · rename_i hb
              cases hs : svs[i] with
              | bor o' => exact ⟨_, by rw [List.getElem?_eq_getElem hi, hs], rfl⟩
              | _ => rw [hs] at hb; cases hb
            · exact ⟨svs[i], by simp [hi], by rw [← Option.some.inj this]; rfl⟩
          · have hl2 := st.len
            simp at hl2
            omega
      obtain ⟨a, ov, _, h1, _, h3⟩ := g.at_own e2 k
      rw [z] at h1; cases h1
      obtain ⟨u, hu⟩ := h3.some
      have := ap.h0
      rw [hu] at this; cases this

/-! ### the call that gives a new list -/
def fnCallL (fn : List SV → Out (List D)) (its : List It) (e : Env) : Out (List D) := if nodupB (refsOf its) = true then (match fn (svsOf e its) with
    | .no => .no
    | .ok l svs' => .ok l (putBack its svs' e)
    | .ex x svs' => .ex x (putBack its svs' e)) else .no
theorem Good.someH (g : c.Good H0 F env σ H) {a : Addr} (n : H0 a ≠ none) : H a ≠ none := fun z => by
  have := g.base_some n
  unfold rebase at this
  split at this
  · exact this rfl
  · exact this z
theorem Good.callL {its : List It} {vs : List V} {fn : List SV → Out (List D)} (g : c.Good H0 F env σ H) (h : ItsOk c F env σ its vs)
    (q : Res c W H0 F env σ (fnCallL fn its env) (kF c H0 σ Q)) : spL c fn vs H Q (W σ) := by
  unfold fnCallL at q
  split at q
  · rename_i nd
    have nd := nodupB_iff nd
    refine ⟨F, svsOf env its, g.handed h nd, svs_noOwn _ _, ?_⟩
    cases e : fn (svsOf env its) with
    | no => rw [e] at q; exact q
    | ok l svs' =>
      rw [e] at q
      intro F' H' v st ⟨p, xs, hv, ap, rl⟩
      have s := g.called h nd st
      refine q F' H' s v ⟨p, xs, hv, ⟨ap.f, ap.h, ?_, fun i sv e1 so z => ?_⟩, rl⟩
      · cases e0 : H0 p with
        | none => rfl
        | some u => exact absurd ap.h0 (g.someH (by rw [e0]; simp))
      · obtain ⟨t, e2, l⟩ := s.le.back e1
        have to : t.isO = true := by
          cases t with
          | un => cases l; cases so
          | dat d => cases l; cases so
          | own ov => rfl
          | bor ov => rfl
        obtain ⟨u, hu⟩ := g.bor_some e2 to z
        have := ap.h0
        rw [hu] at this; cases this
    | ex x svs' =>
      rw [e] at q
      exact fun F' H' cl dx st hx => q F' H' cl dx (g.called h nd st) hx
  · exact q.elim
def callLS (fn : List SV → Out (List D)) (ra : Env → Out (List It)) (e : Env) : Out (List D) := (ra e).bind fun its e1 => fnCallL fn its e1
theorem dl_callL {x : Str} {p pos : Pos} {e : Expr} {es : List Expr} {n : Nat} {f : Addr} {E : XK} {fn : List SV → Out (List D)} {ra : Env → Out (List It)} (hW : W = fun _ => E) (R : Runs X (.ref f) n [] fun vs _ H Q => spL c fn vs H Q E) (hl : LenR ra n) (hg : Gl X x) (hm : X.mg x = some (.ref f)) (hk : PySem.W.keepIn X.K (.ref f) = true) (ha : PA X (e :: es) (tR c W ra))
    (hdb : (x == ("__debug__" : Str)) = false := by decide) (he : starEach (e :: es) X.env = (false, eval e X.env) :: starEach es X.env := by rfl) (hpl : (backTo pos (starEach es X.env)).any (·.1) = false := by rfl) :
    PE X (.Call (.Name x p) (e :: es) [] pos) (tF c W (callLS fn ra)) := (pr_call R hg hm hk ha hdb he hpl).imp fun σ H Q ⟨H0, F, env, g, q⟩ => by
  subst hW
  refine ⟨H0, F, env, g, ?_⟩
  unfold callLS at q
  cases e1 : ra env with
  | no => rw [e1] at q; exact q
  | ex x e => rw [e1] at q; exact q
  | ok its e =>
    rw [e1, bind_ok] at q
    intro F1 H1 s1 vs hvs
    exact ⟨(its_len hvs).trans (hl _ _ _ e1), rfl, s1.good.callL hvs (Res.base s1 q)⟩

/-! ### a new object handed in -/
theorem Good.more {p : Addr} {o : HO} {ov : OV} (g : c.Good H0 F env σ H) (a : Apart env σ H0 F H p o) (r : RO c.K c.cm F H p ov) : c.Good H0 F (env ++ [.own ov]) (σ ++ [some (.ref p)]) H := by
  have hl := g.len
  have look : ∀ {j : Nat} {tv : SV}, (env ++ [SV.own ov])[j]? = some tv → (j < env.length ∧ env[j]? = some tv ∧ (σ ++ [some (V.ref p)])[j]? = σ[j]?) ∨ (j = env.length ∧ tv = .own ov ∧ (σ ++ [some (V.ref p)])[j]? = some (some (.ref p))) := fun {j tv} q => by
    by_cases hj : j < env.length
    · rw [List.getElem?_append_left hj] at q
      exact .inl ⟨hj, q, by rw [List.getElem?_append_left (by omega)]⟩
    · rw [List.getElem?_append_right (by omega)] at q
      have : j - env.length = 0 := by
        have := (List.getElem?_eq_some_iff.mp q).1
        simp at this; omega
      rw [this] at q
      simp at q
      subst q
      have hj' : j = env.length := by omega
      subst hj'
      exact .inr ⟨rfl, rfl, by rw [List.getElem?_append_right (by omega)]; simp [hl]⟩
  refine ⟨g.le, by simp [hl], fun j tv q => ?_, fun j l tv uv b n q1 q2 o1 o2 r1 => ?_, fun b u e z => g.frame b u e fun j tv q bb => ?_, fun j ox b q z => ?_⟩
  · rcases look q with ⟨_, q, e⟩ | ⟨_, rfl, e⟩
    · rw [e]; exact g.slot j tv q
    · rw [e]; exact ⟨p, rfl, a.f, r⟩
  · rcases look q1 with ⟨_, q1, e1⟩ | ⟨h1, rfl, e1⟩
    · rw [e1] at r1
      rcases look q2 with ⟨_, q2, e2⟩ | ⟨_, rfl, e2⟩
      · rw [e2]; exact g.sep j l tv uv b n q1 q2 o1 o2 r1
      · rw [e2]
        intro z
        cases z
        exact a.no j tv q1 o1 r1
    · rw [e1] at r1; cases r1
      rcases look q2 with ⟨_, q2, e2⟩ | ⟨h2, _, _⟩
      · rw [e2]; exact a.no l uv q2 o2
      · omega
  · have hj : j < env.length := (List.getElem?_eq_some_iff.mp q).1
    have := z j tv (by rw [List.getElem?_append_left hj]; exact q) bb
    rwa [List.getElem?_append_left (by omega)] at this
  · rcases look q with ⟨_, q, e⟩ | ⟨_, _, e⟩
    · rw [e] at z; exact g.fresh j ox b q z
    · rw [e] at z; cases z; exact a.h0
theorem Step.less {ov : OV} {v : Option V} {e' : Env} (hl : σ.length = env.length) (s : Step c H0 F (env ++ [.own ov]) (σ ++ [v]) F' e' H') : Step c H0 F env σ F' (e'.take env.length) H' := by
  have le := s.le.len
  simp at le
  have look : ∀ {j : Nat} {tv : SV}, (e'.take env.length)[j]? = some tv → j < env.length ∧ e'[j]? = some tv ∧ (σ ++ [v])[j]? = σ[j]? := fun {j tv} q => by
    have hj : j < env.length := by have := (List.getElem?_eq_some_iff.mp q).1; simp at this; omega
    rw [List.getElem?_take_of_lt hj] at q
    exact ⟨hj, q, by rw [List.getElem?_append_left (by omega)]⟩
  refine ⟨s.same, ⟨by simp [le], fun j sv q => ?_⟩, ⟨s.good.le, by simp [le, hl], fun j tv q => ?_, fun j l tv uv b n q1 q2 o1 o2 r1 => ?_, fun b u e z => s.good.frame b u e fun j tv q bb => ?_, fun j ox b q z => ?_⟩, s.old⟩
  · have hj : j < env.length := (List.getElem?_eq_some_iff.mp q).1
    obtain ⟨t, e1, l⟩ := s.le.at_ j sv (by rw [List.getElem?_append_left hj]; exact q)
    exact ⟨t, by rw [List.getElem?_take_of_lt hj]; exact e1, l⟩
  · obtain ⟨_, q1, e⟩ := look q
    rw [← e]; exact s.good.slot j tv q1
  · obtain ⟨_, q1, e1⟩ := look q1
    obtain ⟨_, q2, e2⟩ := look q2
    rw [← e1] at r1; rw [← e2]; exact s.good.sep j l tv uv b n q1 q2 o1 o2 r1
  · by_cases hj : j < env.length
    · have := z j tv (by rw [List.getElem?_take_of_lt hj]; exact q) bb
      rwa [List.getElem?_append_left (by omega)]
    · have hj' : j = env.length := by have := (List.getElem?_eq_some_iff.mp q).1; omega
      subst hj'
      obtain ⟨t, e1, l⟩ := s.le.back q
      rw [List.getElem?_append_right (by omega)] at e1
      simp at e1
      subst e1
      rcases l with ⟨_, rfl⟩ | ⟨_, rfl⟩ <;> cases bb
  · obtain ⟨_, q1, e⟩ := look q
    rw [← e] at z; exact s.good.fresh j ox b q1 z
theorem its_more {ov : OV} {v : Option V} (hl : σ.length = env.length) : ∀ {its : List It} {vs : List V}, ItsOk c F env σ its vs → ItsOk c F (env ++ [.own ov]) (σ ++ [v]) its vs
  | [], _, h => h
  | .d _ :: its, _, ⟨u, r, e, h, t⟩ => ⟨u, r, e, h, its_more hl t⟩
  | .r i :: its, _, ⟨u, r, e, h, ⟨o, ho⟩, t⟩ => by
    have hi : i < env.length := by
      cases e1 : env[i]? with
      | none => rw [e1] at ho; cases ho
      | some sv => exact (List.getElem?_eq_some_iff.mp e1).1
    exact ⟨u, r, e, by rw [List.getElem?_append_left (by omega)]; exact h, ⟨o, by rw [List.getElem?_append_left hi]; exact ho⟩, its_more hl t⟩
def fnCallF (fn : List SV → Out D) (o : OV) (its : List It) (e : Env) : Out D := match fnCall fn (.r e.length :: its) (e ++ [.own o]) with
  | .no => .no
  | .ok d e' => .ok d (e'.take e.length)
  | .ex x e' => .ex x (e'.take e.length)
/-- f(new, ..) -/
def callFS (fn : List SV → Out D) (rl : Env → Out OV) (rr : Env → Out (List It)) (e : Env) : Out D := (rl e).bind fun o e1 => (rr e1).bind fun its e2 => if refsB its e2 = true then fnCallF fn o its e2 else .no
theorem dl_callF {x : Str} {p pos : Pos} {e : Expr} {es : List Expr} {n : Nat} {f : Addr} {E : XK} {fn : List SV → Out D} {rl : Env → Out OV} {rr : Env → Out (List It)} (hW : W = fun _ => E) (R : Runs X (.ref f) (n + 1) [] fun vs _ H Q => spF c fn (vs ++ []) H Q E) (hl : LenR rr n) (hg : Gl X x) (hm : X.mg x = some (.ref f)) (hk : PySem.W.keepIn X.K (.ref f) = true)
    (ha : PA X (e :: es) (tCons (tNew c W rl) (tR c W rr)))
    (hdb : (x == ("__debug__" : Str)) = false := by decide) (he : starEach (e :: es) X.env = (false, eval e X.env) :: starEach es X.env := by rfl) (hpl : (backTo pos (starEach es X.env)).any (·.1) = false := by rfl) :
    PE X (.Call (.Name x p) (e :: es) [] pos) (tD c W (callFS fn rl rr)) := call_imp (pr_call R hg hm hk ha hdb he hpl) fun σ H Q H0 F env g q => by
  subst hW
  refine ⟨H0, F, env, g, q.seq fun o e1 F1 H1 s1 q1 v ⟨pa, ho, hv, ap, ro⟩ => ?_⟩
  subst hv
  refine ⟨rebase e1 σ H1, F1, e1, s1.good.rebased, ?_⟩
  cases er : rr e1 with
  | no => rw [er] at q1; exact q1
  | ex x0 e2 =>
    rw [er] at q1
    intro F2 H2 cl dx s2 hx
    exact q1 F2 H2 cl dx (s1.good.unbase s2) hx
  | ok its e2 =>
    rw [er, bind_ok] at q1
    intro F2 H2 s2r vs hvs
    have s2 := s1.good.unbase s2r
    have ap2 := ap.after s1.good s2r
    have ro2 : RO c.K c.cm F2 H2 pa o := ro.mono s2.same (by rw [ap2.h, ap.h])
    have q2 := Res.base s2 q1
    by_cases hb : refsB its e2 = true
    · rw [if_pos hb] at q2
      have g3 := s2.good.more ap2 ro2
      have hvs' : ItsOk c F2 e2 σ its vs := hvs
      have hi : ItsOk c F2 (e2 ++ [.own o]) (σ ++ [some (.ref pa)]) (.r e2.length :: its) (.ref pa :: vs) :=
        ⟨_, _, rfl, by rw [List.getElem?_append_right (by have := s2.good.len; omega)]; simp [s2.good.len], ⟨o, by simp [ovOf]⟩, its_more s2.good.len hvs'⟩
      refine ⟨by rw [List.length_cons, its_len hvs', hl _ _ _ er], rfl, ?_⟩
      show spF c fn (.ref pa :: vs ++ []) H2 Q E
      rw [List.append_nil]
      refine g3.call (W := fun _ => E) (k := fun d e' F' H' => ∀ v, Rp c.K c.cm F' d v → Q v H') hi ?_ fun d e F' H' h => h
      unfold fnCallF at q2
      cases ef : fnCall fn (.r e2.length :: its) (e2 ++ [.own o]) with
      | no => rw [ef] at q2; exact q2
      | ok d e' =>
        rw [ef] at q2
        exact fun F3 H3 s3 => q2 F3 H3 (s3.less s2.good.len)
      | ex x0 e' =>
        rw [ef] at q2
        exact fun F3 H3 cl dx s3 hx => q2 F3 H3 cl dx (s3.less s2.good.len) hx
    · rw [if_neg hb] at q2; exact q2.elim
end
end DL

/-! ==== DL18 -/
/-! DL18: short forms for the printed walks -/
namespace DL
open PySem PySem.Spec PyProof.Rows L2
section
variable {c : Kc} {W : WX} {X : Cx} {E : XK} {C : Addr}
theorem bin_read {r : R2} {f : D → D → Env → Out D} {ra rb : Env → Out D} (p : Prim2 c r f) {σ : L2.St} {H : Hp} {Q : VK} (h : tD c W (bin2 f ra rb) σ H Q) : tOp r (tD c W ra) (tD c W rb) σ H Q := by
  obtain ⟨H0, F, env, g, q⟩ := h
  exact ⟨H0, F, env, g, q.seq fun x e1 F1 H1 s1 q1 v hv => ⟨H0, F1, e1, s1.good, q1.seq fun y e2 F2 H2 s2 q2 u hu => p W H0 F2 H2 e2 σ x y v u Q s2.good (Rp.mono s2.same _ _ hv) hu q2⟩⟩
/-- a comparison as a test -/
theorem dl_cmpT {e : Expr} {r : R2} {f : D → D → Env → Out D} {ra rb : Env → Out D} (h : PT X e (tTest (tOp r (tD c W ra) (tD c W rb)))) (p : Prim2 c r f) : PT X e (tT c W (valT (bin2 f ra rb))) := h.imp fun σ H Q q => bin_read p (by
  obtain ⟨H0, F, env, g, q⟩ := q
  refine ⟨H0, F, env, g, ?_⟩
  have : Res c W H0 F env σ ((bin2 f ra rb env).bind fun d e1 => valT (fun e => .ok d e) e1) (kT Q) := by
    have e2 : (bin2 f ra rb env).bind (fun d e1 => valT (fun e => .ok d e) e1) = valT (bin2 f ra rb) env := by
      unfold valT
      cases bin2 f ra rb env <;> rfl
    rw [e2]; exact q
  refine this.seq fun d e1 F1 H1 s1 q1 v hv => ?_
  unfold valT at q1
  simp only [bind_ok] at q1
  unfold blOf at q1
  split at q1
  · simp only [Rp] at hv
    exact ⟨_, hv, q1.ret s1.good⟩
  · exact q1.elim)
theorem callOk_fnE {fn : List SV → Out D} {gV : List V → List V → List V} (hW : W = fun _ => E) : CallOk c W (fnCall fn) gV fun _ vs zs H Q => spF c fn (gV vs zs) H Q E := by
  subst hW
  exact callOk_fn
theorem callOk_mkE {cn : Str} {fn : List SV → Out (List (Str × D))} {gV : List V → List V → List V} (hW : W = fun _ => E) (hC : c.cm cn = some C) : CallOk c W (mkCall cn fn) gV fun _ => spMake C (spI c C fn) gV E := by
  subst hW
  exact callOk_mk hC
theorem spF_len {n tot : Nat} {rb : Env → Out Fl} {vs : List V} {H : Hp} {Q : VK} (h : spF c (fnOf n tot rb) vs H Q E) : vs.length = n := by
  obtain ⟨F, svs, g, no, h⟩ := h
  have hl := g.len
  simp at hl
  by_cases hn : svs.length = n
  · omega
  · unfold fnOf at h
    rw [if_neg hn] at h
    exact h.elim
theorem spL_len {n tot : Nat} {rb : Env → Out (Option (List D))} {vs : List V} {H : Hp} {Q : VK} (h : spL c (fnOfL n tot rb) vs H Q E) : vs.length = n := by
  obtain ⟨F, svs, g, no, h⟩ := h
  have hl := g.len
  simp at hl
  by_cases hn : svs.length = n
  · omega
  · unfold fnOfL at h
    rw [if_neg hn] at h
    exact h.elim
theorem spI_len {n tot : Nat} {rb : Env → List (Str × D) → Out (List (Str × D))} {vs : List V} {H : Hp} {Q : VK} (h : spI c C (fnN n tot rb) vs H Q E) : vs.length = n := by
  obtain ⟨x, dx, us, F, svs, rfl, hx, fx, g, no, nx, h⟩ := h
  have hl := g.len
  simp at hl
  by_cases hn : svs.length + 1 = n
  · simp; omega
  · unfold fnN at h
    rw [if_neg hn] at h
    exact h.elim
theorem body_ok {vs : List V} {N : List Str} {n : Nat} {rb : Env → Out Fl} {H : Hp} {Q : VK} (h : spF c (fnOf n N.length rb) vs H Q E) : tS c (fun _ => E) rb { nx := fun _ H' => Q .non H', rt := Q } (L2.start N vs) H := by
  obtain ⟨F, svs, g, no, k⟩ := h
  exact body_of (fn := fnOf n N.length rb) rfl (spF_len ⟨F, svs, g, no, k⟩) (fun _ _ => rfl) g no k
theorem bodyL_ok {vs : List V} {N : List Str} {n : Nat} {rb : Env → Out (Option (List D))} {H : Hp} {Q : VK} (h : spL c (fnOfL n N.length rb) vs H Q E) : tL c (fun _ => E) rb { nx := fun _ H' => Q .non H', rt := Q } (L2.start N vs) H :=
  bodyL_of rfl (spL_len h) (fun _ _ => rfl) h
theorem bodyN_ok {vs : List V} {N : List Str} {n : Nat} {rb : Env → List (Str × D) → Out (List (Str × D))} {H : Hp} {Q : VK} (h : spI c C (fnN n N.length rb) vs H Q E) : tN c C (fun _ => E) rb { nx := fun _ H' => Q .non H', rt := Q } (L2.start N vs) H := by
  have hn := spI_len h
  obtain ⟨x, dx, us, F, svs, e, k⟩ := id h
  exact init_of (vs := vs) (us := us) (x := x) (dx := dx) (svs := svs) rfl hn (fun _ _ => rfl) h
theorem dl_one {op : BoolOp} {a : Expr} {pos : Pos} {r : Env → Out D} (h : PE X a (tD c W r)) : PE X (.BoolOp op [a] pos) (tD c W r) := pe_one h
theorem plainIx {b : Expr} (h : PlainIx b := by exact fun _ _ => rfl) : PlainIx b := h
theorem rpl_nil : ∀ F, RpL c.K c.cm F [] [] := fun _ => .nil
/-- isinstance by a built-in type: what the library tells of the built-in types -/
def kbTy (t : String) (n : String) : Option Bool := if n = t then some true else if (["NoneType", "int", "str", "tuple", "list", "dict"].contains n && ["NoneType", "int", "str", "tuple", "list", "dict", "bool"].contains t) = true then some false else none
/-- -x -/
def negF : D → Option D
  | .int i => some (.int (-i))
  | _ => none
theorem prim_neg : Prim1 c (rU fun i => .int (-i)) (pur1 negF) := prim1 fun H0 F H env σ x v d Q g hx e k => by
  unfold negF at e
  split at e
  · cases e
    simp only [Rp] at hx
    exact ⟨_, hx, k F H (Step.refl g) _ (by simp only [Rp])⟩
  · cases e
/-! what is walked: a list, a tuple, a text, as the data tell -/
theorem pi_or {tg e : Expr} {t t' : TI} (h : PI X tg e t) (h' : PI X tg e t') : PI X tg e (fun σ H R => t σ H R ∨ t' σ H R) := ⟨fun pins s σ H R I q => q.elim (h.run pins s σ H R I) (h'.run pins s σ H R I)⟩
def itA (ra : Env → Out D) (e : Env) : Out (List D) := match ra e with
  | .ok (.tup _) _ => itT ra e
  | .ok (.str _) _ => itS ra e
  | _ => itL ra e
theorem dl_itA {tg e : Expr} {ra : Env → Out D} (h : PE X e (tD c W ra)) (hK : X.K = c.K := by rfl) : PI X tg e (tI c W (itA ra)) := (pi_or (dl_itL (by rw [← hK]; exact pi_list h)) (pi_or (dl_itT (by rw [← hK]; exact pi_tup h)) (dl_itS (pi_str h)))).imp fun σ H R ⟨H0, F, env, g, q⟩ => by
  unfold itA at q
  split at q
  · exact .inr (.inl ⟨H0, F, env, g, q⟩)
  · exact .inr (.inr ⟨H0, F, env, g, q⟩)
  · exact .inl ⟨H0, F, env, g, q⟩
def itEA (ra : Env → Out (List D)) (e : Env) : Out (List D) := match ra e with
  | .ok [.tup _] _ => itET ra e
  | _ => itE ra e
theorem dl_itEA {tg e : Expr} {ra : Env → Out (List D)} (h : PI X tg e (iEnum c.K (tA c W ra))) (h' : PI X tg e (iEnT c.K (tA c W ra))) : PI X tg e (tI c W (itEA ra)) := (pi_or (dl_itE h) (dl_itET h')).imp fun σ H R ⟨H0, F, env, g, q⟩ => by
  unfold itEA at q
  split at q
  · exact .inr ⟨H0, F, env, g, q⟩
  · exact .inl ⟨H0, F, env, g, q⟩
/-- a part of a list, a tuple, a text -/
def cutA (ra : Env → Out D) (rl rh : Env → Out (Option Int)) (e : Env) : Out D := match ra e with
  | .ok (.lst _) _ => heldD (sl3 ra rl rh cutLF) e
  | .ok (.ro _) _ => heldD (sl3 ra rl rh cutLF) e
  | _ => sl3 ra rl rh cutF e
theorem _root_.L2.PE.or {e : Expr} {t t' : TE} (h : PE X e t) (h' : PE X e t') : PE X e (fun σ H Q => t σ H Q ∨ t' σ H Q) := ⟨fun pins s σ H Q I q => q.elim (h.run pins s σ H Q I) (h'.run pins s σ H Q I)⟩
theorem dl_cutA {e : Expr} {ra : Env → Out D} {rl rh : Env → Out (Option Int)} (h : PE X e (tSl (rSlTS c.K) (tD c W ra) (tO c W rl) (tO c W rh))) (h' : PE X e (tSl (rSlL c.K) (tD c W ra) (tO c W rl) (tO c W rh))) : PE X e (tD c W (cutA ra rl rh)) := ((dl_cut h).or (dl_held (dl_cutL h'))).imp fun σ H Q ⟨H0, F, env, g, q⟩ => by
  unfold cutA at q
  split at q
  · exact .inr ⟨H0, F, env, g, q⟩
  · exact .inr ⟨H0, F, env, g, q⟩
  · exact .inl ⟨H0, F, env, g, q⟩
end
end DL

/-! ==== DL19 -/
/-! DL19: the printed forms -/
namespace DL
open PySem PySem.Spec PyProof.Rows L2
theorem vb_len : bootBuiltins "len" = some (.builtin "len") := by decide +kernel
theorem vb_all : bootBuiltins "all" = some (.builtin "all") := by decide +kernel
theorem vb_any : bootBuiltins "any" = some (.builtin "any") := by decide +kernel
theorem vb_sum : bootBuiltins "sum" = some (.builtin "sum") := by decide +kernel
theorem vb_max : bootBuiltins "max" = some (.builtin "max") := by decide +kernel
theorem vb_min : bootBuiltins "min" = some (.builtin "min") := by decide +kernel
theorem vb_abs : bootBuiltins "abs" = some (.builtin "abs") := by decide +kernel
theorem vb_sorted : bootBuiltins "sorted" = some (.builtin "sorted") := by decide +kernel
theorem vb_isinstance : bootBuiltins "isinstance" = some (.builtin "isinstance") := by decide +kernel
theorem vb_int : bootBuiltins "int" = some (.type "int") := by decide +kernel
theorem vb_tuple : bootBuiltins "tuple" = some (.type "tuple") := by decide +kernel
theorem vb_list : bootBuiltins "list" = some (.type "list") := by decide +kernel
theorem vb_str : bootBuiltins "str" = some (.type "str") := by decide +kernel
theorem vb_bool : bootBuiltins "bool" = some (.type "bool") := by decide +kernel
theorem vb_dict : bootBuiltins "dict" = some (.type "dict") := by decide +kernel
section
variable {c : Kc} {W : WX} {X : Cx} {E : XK} {C : Addr} {a b e o : Expr} {es : List Expr} {pos p apos : Pos} {x : Str} {ra rb rc : Env → Out D} {rA : Env → Out (List D)} {rl rh : Env → Out (Option Int)} {ta tb : Env → Out Bool}
theorem gv (i : Nat) (hN : X.N[i]? = some x := by rfl) (hv : Vis X.env.scope x := by first | exact Or.inl rfl | exact Or.inr (Or.inl rfl) | exact Or.inr (Or.inr rfl)) (hd : (x == ("__debug__" : Str)) = false := by decide)
    (hcd : (x == ("__classdict__" : Str)) = false := by decide) : PE X (.Name x pos) (tD c W (nameD i)) := dl_name (pe_var hN hv hd hcd)
theorem gi {i : Int} {j} : PE X (.Constant (.int i) j pos) (tD c W (constD (.int i))) := dl_const pe_int rfl
theorem gs {s : Str} {j} : PE X (.Constant (.str s) j pos) (tD c W (constD (.str s))) := dl_const pe_str rfl
theorem gb {k : Bool} {j} : PE X (.Constant (.bool k) j pos) (tD c W (constD (.bl k))) := dl_const pe_bl rfl
theorem gn {j} : PE X (.Constant .none j pos) (tD c W (constD .non)) := dl_const pe_non rfl
theorem gGi {i : Int} {t : Tok} (hm : X.mg x = some (.int i t)) (hg : Gl X x := by rfl) (hd : (x == ("__debug__" : Str)) = false := by decide) : PE X (.Name x pos) (tD c W (constD (.int i))) := dl_const (pe_glob (v := .int i) hg hm ⟨t, rfl⟩ hd) rfl
theorem gGs {i : Str} {t : Tok} (hm : X.mg x = some (.str i t)) (hg : Gl X x := by rfl) (hd : (x == ("__debug__" : Str)) = false := by decide) : PE X (.Name x pos) (tD c W (constD (.str i))) := dl_const (pe_glob (v := .str i) hg hm ⟨t, rfl⟩ hd) rfl
theorem gA1 (h : PE X e (tD c W ra)) (h2 : PA X es (tA c W rA)) (hs : starEach (e :: es) X.env = (false, eval e X.env) :: starEach es X.env := by rfl) : PA X (e :: es) (tA c W (consA ra rA)) := tA_cons (pa_cons h h2 hs)
theorem gA0 : PA X [] (tA c W nilA) := tA_nil
theorem gtup {k} (h : PA X es (tA c W rA)) : PE X (.Tuple es k pos) (tD c W (tupD rA)) := dl_tup (pe_tup h)
theorem glst (h : PA X es (tA c W rA)) : PE X (.List es pos) (tF c W (lstF rA)) := dl_lstF (pe_lst h)
theorem gadd (h1 : PE X a (tD c W ra)) (h2 : PE X b (tD c W rb)) (hK : X.K = c.K := by rfl) : PE X (.BinOp a .Add b pos) (tD c W (bin2 (pur2 addF) ra rb)) := dl_bin (by rw [← hK]; exact pe_op op_addA h1 h2) prim_add
theorem gsub (h1 : PE X a (tD c W ra)) (h2 : PE X b (tD c W rb)) : PE X (.BinOp a .Sub b pos) (tD c W (bin2 (pur2 subF) ra rb)) := dl_bin (pe_op (op_i0 op_sub) h1 h2) prim_sub
theorem gmul (h1 : PE X a (tD c W ra)) (h2 : PE X b (tD c W rb)) : PE X (.BinOp a .Mult b pos) (tD c W (bin2 (pur2 mulA) ra rb)) := dl_bin (pe_op op_mulA h1 h2) prim_mulA
theorem gfdiv (h1 : PE X a (tD c W ra)) (h2 : PE X b (tD c W rb)) : PE X (.BinOp a .FloorDiv b pos) (tD c W (bin2 (pur2 fdivF) ra rb)) := dl_bin (pe_op op_fdivW h1 h2) prim_fdiv
theorem gmod (h1 : PE X a (tD c W ra)) (h2 : PE X b (tD c W rb)) : PE X (.BinOp a .Mod b pos) (tD c W (bin2 (pur2 modF) ra rb)) := dl_bin (pe_op op_mod h1 h2) prim_mod
theorem gpow (h1 : PE X a (tD c W ra)) (h2 : PE X b (tD c W rb)) : PE X (.BinOp a .Pow b pos) (tD c W (bin2 (pur2 powF) ra rb)) := dl_bin (pe_op op_pow h1 h2) prim_pow
theorem gneg (h : PE X a (tD c W ra)) : PE X (.UnaryOp .USub a pos) (tD c W (un1 (pur1 negF) ra)) := dl_un (pe_un un_neg h) prim_neg
/-! comparisons: a rule and what it means -/
structure CmpOk (c : Kc) (X : Cx) (op : CmpOp) (f : D → D → Env → Out D) : Prop where
  ex : ∃ r : R2, OpR X (compareOp op) r ∧ Prim2 c r f
theorem klt : CmpOk c X .Lt (pur2 ltF) := ⟨_, op_ltA, prim_cmp⟩
theorem kle : CmpOk c X .LtE (pur2 leF) := ⟨_, op_leA, prim_cmp⟩
theorem kgt : CmpOk c X .Gt (pur2 gtF) := ⟨_, op_gtA, prim_cmp⟩
theorem kge : CmpOk c X .GtE (pur2 geF) := ⟨_, op_geA, prim_cmp⟩
theorem kleA (hu : X.A.units < cLine) (hK : X.K = c.K := by rfl) : CmpOk c X .LtE (pur2 leA) := ⟨_, op_leAll hu, by rw [hK]; exact prim_leAll⟩
theorem keq (hu : X.A.units + 64 < cLine) (hK : X.K = c.K := by rfl) : CmpOk c X .Eq (pur2 (eqF false)) := ⟨_, op_eqA hu, by rw [hK]; exact prim_eqB⟩
theorem kne (hu : X.A.units + 64 < cLine) (hK : X.K = c.K := by rfl) : CmpOk c X .NotEq (pur2 (eqF true)) := ⟨_, op_neA hu, by rw [hK]; exact prim_eqB⟩
theorem kin (hu : X.A.units + 65 < cLine) (hK : X.K = c.K := by rfl) : CmpOk c X .In (pur2 (inF false)) := ⟨_, op_inAll hu, by rw [hK]; exact prim_in⟩
theorem knin (hu : X.A.units + 65 < cLine) (hK : X.K = c.K := by rfl) : CmpOk c X .NotIn (pur2 (inF true)) := ⟨_, op_ninAll hu, by rw [hK]; exact prim_in⟩
theorem keqA {cn : Str} {fn : List SV → Out D} {op : CmpOp} {n : Bool} {r : R2} (hC : c.cm cn = some C) (h1 : OpR X (compareOp op) r) (h2 : Prim2 c r (pur2 (eqF n))) (h3 : OpR X (compareOp op) (rOwn C (spF c fn) E n)) : CmpOk c X op (eqA cn fn n) := ⟨_, op_or h1 h3, prim_eqA hC h2⟩
theorem gcmp {op : CmpOp} {f : D → D → Env → Out D} (k : CmpOk c X op f) (h1 : PE X a (tD c W ra)) (h2 : PE X b (tD c W rb)) (hm : behindInMarks op b = false := by first | exact nomark _ | rfl) : PE X (.Compare a [op] [b] pos) (tD c W (bin2 f ra rb)) := by
  obtain ⟨r, k1, k2⟩ := k.ex
  exact dl_bin (pe_cmpR k1 h1 h2 hm) k2
theorem gcmpT {op : CmpOp} {f : D → D → Env → Out D} (k : CmpOk c X op f) (h1 : PE X a (tD c W ra)) (h2 : PE X b (tD c W rb)) (hm : behindInMarks op b = false := by first | exact nomark _ | rfl) : PT X (.Compare a [op] [b] pos) (tT c W (valT (bin2 f ra rb))) := by
  obtain ⟨r, k1, k2⟩ := k.ex
  exact dl_cmpT (pt_cmpR k1 h1 h2 hm) k2
theorem gchain {d : Expr} {rd : Env → Out D} {op op' : CmpOp} {f f' : D → D → Env → Out D} (k : CmpOk c X op f) (k' : CmpOk c X op' f') (h1 : PE X a (tD c W ra)) (h2 : PE X b (tD c W rb)) (h3 : PE X d (tD c W rd)) (hm : lastMarks [op, op'] [b, d] = false := by with_unfolding_all rfl) :
    PE X (.Compare a [op, op'] [b, d] pos) (tD c W (chainD f f' ra rb rd)) := by
  obtain ⟨r, k1, k2⟩ := k.ex
  obtain ⟨r', k3, k4⟩ := k'.ex
  exact dl_chain (pe_chain k1 k3 h1 h2 h3 hm) k2 k4
theorem gchainT {d : Expr} {rd : Env → Out D} {op op' : CmpOp} {f f' : D → D → Env → Out D} (k : CmpOk c X op f) (k' : CmpOk c X op' f') (h1 : PE X a (tD c W ra)) (h2 : PE X b (tD c W rb)) (h3 : PE X d (tD c W rd)) (hm : lastMarks [op, op'] [b, d] = false := by with_unfolding_all rfl) :
    PT X (.Compare a [op, op'] [b, d] pos) (tT c W (valT (chainD f f' ra rb rd))) := by
  obtain ⟨r, k1, k2⟩ := k.ex
  obtain ⟨r', k3, k4⟩ := k'.ex
  exact dl_chainT (pt_chain k1 k3 h1 h2 h3 hm) k2 k4
theorem gvalT (h : PE X e (tD c W ra)) (he : ∀ whole, isTrue e X.env whole = (do let v ← whole; standAt e.pos; holding [v] (truthy v)) := by intro _; rfl) : PT X e (tT c W (valT ra)) := dl_valT (pt_val h he)
theorem gnotT (h : PT X a (tT c W ta)) : PT X (.UnaryOp .Not a pos) (tT c W (notT ta)) := dl_notT (pt_not h)
theorem gandW (h : PT X a (tT c W ta)) (h2 : PW X (.BoolOp .And (b :: es) pos) (tT c W tb)) : PW X (.BoolOp .And (a :: b :: es) pos) (tT c W (andT ta tb)) := dl_andT (pw_and h h2)
theorem gorW (h : PT X a (tT c W ta)) (h2 : PW X (.BoolOp .Or (b :: es) pos) (tT c W tb)) : PW X (.BoolOp .Or (a :: b :: es) pos) (tT c W (orT ta tb)) := dl_orT (pw_or h h2)
theorem gandD (h : PE X a (tD c W ra)) (h2 : PE X (.BoolOp .And (b :: es) pos) (tD c W rb)) : PE X (.BoolOp .And (a :: b :: es) pos) (tD c W (andD ra rb)) := dl_andD (pe_and h h2)
theorem gorD (h : PE X a (tD c W ra)) (h2 : PE X (.BoolOp .Or (b :: es) pos) (tD c W rb)) : PE X (.BoolOp .Or (a :: b :: es) pos) (tD c W (orD ra rb)) := dl_orD (pe_or h h2)
theorem gnotD (h : PE X a (tD c W ra)) : PE X (.UnaryOp .Not a pos) (tD c W (notD ra)) := dl_notD (pe_not h)
theorem gif (h : PT X e (tT c W ta)) (h1 : PE X a (tD c W ra)) (h2 : PE X b (tD c W rb)) : PE X (.IfExp e a b pos) (tD c W (ifD ta ra rb)) := dl_ifD (pe_ifExp h h1 h2)
theorem gix (h1 : PE X a (tD c W ra)) (h2 : PE X b (tD c W rb)) (hs : PlainIx b := by exact fun _ _ => rfl) (hK : X.K = c.K := by rfl) : PE X (.Subscript a b pos) (tD c W (bin2 (pur2 ixF) ra rb)) := dl_bin (pe_ix ix_seq h1 h2 hs) (by rw [hK]; exact prim_ix)
theorem goix (i : Nat) (h1 : PE X a (tVar i)) (h2 : PE X b (tD c W rb)) (hs : PlainIx b := by exact fun _ _ => rfl) (hK : X.K = c.K := by rfl) : PE X (.Subscript a b pos) (tD c W (ownIx i rb)) := dl_ownIx (by rw [← hK]; exact pe_ix ix_seq h1 h2 hs)
theorem gcut {lo hi : Option Expr} {p2 : Pos} (h : PE X a (tD c W ra)) (hl : PO X lo (tO c W rl)) (hh : PO X hi (tO c W rh)) (hK : X.K = c.K := by rfl) : PE X (.Subscript a (.Slice lo hi none p2) pos) (tD c W (cutA ra rl rh)) :=
  dl_cutA (by rw [← hK]; exact pe_slice sl_ts h hl hh) (by rw [← hK]; exact pe_slice sl_list h hl hh)
theorem gO0 : PO X none (tO c W noO) := tO_none
theorem gO1 (h : PE X e (tD c W ra)) : PO X (some e) (tO c W (someO ra)) := tO_some (po_some h)
/-- built-in functions -/
structure BltOk (c : Kc) (X : Cx) (id : String) (f : List D → Option D) : Prop where
  ex : ∃ r, CallR X (.builtin id) r ∧ PrimC c r f
structure TyOk (c : Kc) (X : Cx) (id : String) (f : List D → Option D) : Prop where
  ex : ∃ r, CallR X (.type id) r ∧ PrimC c r f
theorem blen (hK : X.K = c.K := by rfl) : BltOk c X "len" (one lenF) := ⟨_, cr_len, by rw [hK]; exact prim_len⟩
theorem ball (hc : X.calm = true := by rfl) (hK : X.K = c.K := by rfl) : BltOk c X "all" (one allF) := ⟨_, cr_all hc, by rw [hK]; exact prim_all⟩
theorem bany (hc : X.calm = true := by rfl) (hK : X.K = c.K := by rfl) : BltOk c X "any" (one anyF) := ⟨_, cr_any hc, by rw [hK]; exact prim_any⟩
theorem bsum (hc : X.calm = true := by rfl) (hK : X.K = c.K := by rfl) : BltOk c X "sum" (one sumF) := ⟨_, cr_sum hc, by rw [hK]; exact prim_sum⟩
theorem bmax (hc : X.calm = true := by rfl) (hK : X.K = c.K := by rfl) : BltOk c X "max" (one maxLF) := ⟨_, cr_max hc, by rw [hK]; exact prim_maxL⟩
theorem bmin (hc : X.calm = true := by rfl) (hK : X.K = c.K := by rfl) : BltOk c X "min" (one minLF) := ⟨_, cr_min hc, by rw [hK]; exact prim_minL⟩
theorem bmax2 (hc : X.calm = true := by rfl) : BltOk c X "max" max2F := ⟨_, call_max2 hc, prim_max2⟩
theorem bmin2 (hc : X.calm = true := by rfl) : BltOk c X "min" min2F := ⟨_, call_min2 hc, prim_min2⟩
theorem babs : BltOk c X "abs" (one absF) := ⟨_, call_abs, prim_abs⟩
theorem bint : TyOk c X "int" (one int1F) := ⟨_, call_int1, prim_int1⟩
theorem btuple (hK : X.K = c.K := by rfl) : TyOk c X "tuple" (one tupleF) := ⟨_, call_tuple_of, by rw [hK]; exact prim_tuple⟩
theorem gblt {id : String} {f : List D → Option D} (k : BltOk c X id f) (hm : X.mg x = none) (hv : bootBuiltins x = some (.builtin id)) (ha : PA X (e :: es) (tA c W rA)) (hg : Gl X x := by rfl) (hn : x ≠ "__name__" := by decide) (hdb : (x == ("__debug__" : Str)) = false := by decide)
    (he : starEach (e :: es) X.env = (false, eval e X.env) :: starEach es X.env := by rfl) (hpl : (backTo pos (starEach es X.env)).any (·.1) = false := by rfl) : PE X (.Call (.Name x p) (e :: es) [] pos) (tD c W (callD f rA)) := by
  obtain ⟨r, k1, k2⟩ := k.ex
  exact dl_call (pe_callB k1 hg hm hv ha hn hdb he hpl) k2
theorem gty {id : String} {f : List D → Option D} (k : TyOk c X id f) (hm : X.mg x = none) (hv : bootBuiltins x = some (.type id)) (ha : PA X (e :: es) (tA c W rA)) (hg : Gl X x := by rfl) (hn : x ≠ "__name__" := by decide) (hdb : (x == ("__debug__" : Str)) = false := by decide)
    (he : starEach (e :: es) X.env = (false, eval e X.env) :: starEach es X.env := by rfl) (hpl : (backTo pos (starEach es X.env)).any (·.1) = false := by rfl) : PE X (.Call (.Name x p) (e :: es) [] pos) (tD c W (callD f rA)) := by
  obtain ⟨r, k1, k2⟩ := k.ex
  exact dl_call (pe_callTy k1 hg hm hv ha hn hdb he hpl) k2
theorem glist (hm : X.mg x = none) (hv : bootBuiltins x = some (.type "list")) (ha : PA X (e :: es) (tA c W rA)) (hg : Gl X x := by rfl) (hn : x ≠ "__name__" := by decide) (hdb : (x == ("__debug__" : Str)) = false := by decide)
    (he : starEach (e :: es) X.env = (false, eval e X.env) :: starEach es X.env := by rfl) (hpl : (backTo pos (starEach es X.env)).any (·.1) = false := by rfl) (hK : X.K = c.K := by rfl) : PE X (.Call (.Name x p) (e :: es) [] pos) (tF c W (listF rA)) :=
  dl_list (by rw [← hK]; exact pe_callTy call_list_of hg hm hv ha hn hdb he hpl)
theorem gsorted (hu : X.A.units + 62 < cLine) (hm : X.mg x = none) (hv : bootBuiltins x = some (.builtin "sorted")) (ha : PA X (e :: es) (tA c W rA)) (hg : Gl X x := by rfl) (hn : x ≠ "__name__" := by decide) (hdb : (x == ("__debug__" : Str)) = false := by decide)
    (he : starEach (e :: es) X.env = (false, eval e X.env) :: starEach es X.env := by rfl) (hpl : (backTo pos (starEach es X.env)).any (·.1) = false := by rfl) (hK : X.K = c.K := by rfl) : PE X (.Call (.Name x p) (e :: es) [] pos) (tF c W (sortF rA)) :=
  dl_sort (by rw [← hK]; exact pe_callB (cr_sortD hu) hg hm hv ha hn hdb he hpl)
theorem gjoin (ho : PE X o (tD c W ra)) (h : PE X e (tD c W rb)) (hs : starEach [e] X.env = [(false, eval e X.env)] := by rfl) (hbase : attributeBase o "join" X.env (eval o X.env) = eval o X.env := by rfl) (hline : (apos.endLine == pos.line) = true := by rfl) (hK : X.K = c.K := by rfl) :
    PE X (.Call (.Attribute o "join" apos) [e] [] pos) (tD c W (joinD ra rb)) := dl_join (by rw [← hK]; exact pe_join ho h hs hbase hline)
/-- isinstance -/
theorem gisT {t : String} {y : Str} {p2 : Pos} (hm : X.mg x = none) (hx : x = "isinstance") (hm2 : X.mg y = none) (hy : bootBuiltins y = some (.type t)) (hb : ∀ n b, kbTy t n = some b → PySem.W.kitOne c.K (.type n) (.type t) = some b) (h : PE X e (tD c W ra)) (hg : Gl X x := by rfl) (hg2 : Gl X y := by rfl)
    (hn2 : y ≠ "__name__" := by decide) (hd2 : (y == ("__debug__" : Str)) = false := by decide) (hs : starEach [e, .Name y p2] X.env = (false, eval e X.env) :: starEach [.Name y p2] X.env := by rfl) (hs2 : starEach [.Name y p2] X.env = (false, eval (.Name y p2) X.env) :: starEach [] X.env := by rfl)
    (hpl : (backTo pos (starEach [.Name y p2] X.env)).any (·.1) = false := by rfl) (hK : X.K = c.K := by rfl) : PE X (.Call (.Name x p) [e, .Name y p2] [] pos) (tD c W (isiD (kbTy t) (fun _ => none) ra)) := by
  subst hx
  refine dl_isi (ClsV.ty t) ?_ hb (fun _ _ _ z => by cases z)
  rw [← hK]
  exact pe_callB call_isi hg hm vb_isinstance (pa_cons h (pa_cons (pe_bltn hg2 hm2 hy rfl hn2 hd2) pa_nil hs2) hs) (by decide) (by decide) hs hpl
theorem gisC {cn y : Str} {p2 : Pos} (hm : X.mg x = none) (hx : x = "isinstance") (hm2 : X.mg y = some (.ref C)) (hC : c.cm cn = some C) (ho : ClsOk c.K C ∧ PySem.W.kitOne c.K (.ref C) (.ref C) = some true) (h : PE X e (tD c W ra)) (hg : Gl X x := by rfl) (hg2 : Gl X y := by rfl)
    (hd2 : (y == ("__debug__" : Str)) = false := by decide) (hs : starEach [e, .Name y p2] X.env = (false, eval e X.env) :: starEach [.Name y p2] X.env := by rfl) (hs2 : starEach [.Name y p2] X.env = (false, eval (.Name y p2) X.env) :: starEach [] X.env := by rfl)
    (hpl : (backTo pos (starEach [.Name y p2] X.env)).any (·.1) = false := by rfl) (hK : X.K = c.K := by rfl) : PE X (.Call (.Name x p) [e, .Name y p2] [] pos) (tD c W (isiD (fun _ => none) (fun n => if n = cn then some true else none) ra)) := by
  subst hx
  refine dl_isi (ClsV.own C) ?_ (fun _ _ z => by cases z) (fun n b C' z hC' => ?_)
  · rw [← hK]
    exact pe_callB call_isi hg hm vb_isinstance (pa_cons h (pa_cons (pe_glob hg2 hm2 rfl hd2) pa_nil hs2) hs) (by decide) (by decide) hs hpl
  · by_cases hn : n = cn
    · subst hn
      rw [if_pos rfl] at z; cases z
      rw [hC] at hC'; cases hC'
      exact ho
    · rw [if_neg hn] at z; cases z
theorem gfld {cn f : Str} (ok : ∀ C, c.cm cn = some C → Cls c.K C ∧ NoAttr c.K C f) (h : PE X e (tD c W ra)) (hb : attributeBase e f X.env (eval e X.env) = eval e X.env := by rfl) (hK : X.K = c.K := by rfl) : PE X (.Attribute e f pos) (tD c W (fldD cn f ra)) := dl_fld (by rw [← hK]; exact pe_fld h hb) ok
end
/-! ### walked things, targets, statements -/
section
variable {c : Kc} {W : WX} {X : Cx} {a b e o tg : Expr} {es elts : List Expr} {pos p apos tpos : Pos} {x : Str} {ra rb rc : Env → Out D} {rA : Env → Out (List D)} {ta tb : Env → Out Bool} {kk : Nat}
theorem ir1 (hm : X.mg "range" = none) (h : PE X a (tD c W ra)) (hg : Gl X "range" := by rfl) (hs : starEach [a] X.env = [(false, eval a X.env)] := by rfl) : PI X tg (.Call (.Name "range" p) [a] [] pos) (tI c W (itR1 (consA ra nilA))) := dl_itR1 (pi_range1 hg hm (gA1 h gA0 hs) hs)
theorem ir2 (hm : X.mg "range" = none) (h : PE X a (tD c W ra)) (h2 : PE X b (tD c W rb)) (hg : Gl X "range" := by rfl) (hs : starEach [a, b] X.env = [(false, eval a X.env), (false, eval b X.env)] := by rfl) (hs2 : starEach [b] X.env = [(false, eval b X.env)] := by rfl) :
    PI X tg (.Call (.Name "range" p) [a, b] [] pos) (tI c W (itR2 (consA ra (consA rb nilA)))) := dl_itR2 (pi_range2 hg hm (gA1 h (gA1 h2 gA0 hs2) (by rw [hs, hs2])) hs hs2)
theorem ien (hm : X.mg "enumerate" = none) (h : PE X e (tD c W ra)) (hg : Gl X "enumerate" := by rfl) (hs : starEach [e] X.env = [(false, eval e X.env)] := by rfl) (hK : X.K = c.K := by rfl) :
    PI X (.Tuple elts kk tpos) (.Call (.Name "enumerate" p) [e] [] pos) (tI c W (itEA (consA ra nilA))) :=
  dl_itEA (by rw [← hK]; exact pi_enum hg hm (gA1 h gA0 hs) hs) (by rw [← hK]; exact pi_enT hg hm (gA1 h gA0 hs) hs)
theorem tn (i : Nat) (hN : X.N.Nodup) (hi : X.N[i]? = some x := by rfl) (hx : Loc X.env.scope x := by first | exact Or.inl rfl | exact Or.inr rfl) (hf : X.fn x = true ∨ X.env.scope.names.lookup x = some .local := by first | exact .inl rfl | exact .inr rfl) : PG X (.Name x pos) (tG c [i] (setD i)) := dl_tgName (pg_name hN hi hx hf)
theorem tg0 : PGs X [] (tGs c [] setNil) := dl_tgNil pgs_nil
theorem tg1 {s1 s2 : List Nat} {r1 : D → Env → Option Env} {r2 : List D → Env → Option Env} (h : PG X e (tG c s1 r1)) (h2 : PGs X es (tGs c s2 r2)) (hs : (assignEach (e :: es) X.env).map (·.2) = assign e X.env :: (assignEach es X.env).map (·.2) := by rfl) :
    PGs X (e :: es) (tGs c (s1 ++ s2) (setCons r1 r2)) := dl_tgCons (pgs_cons h h2 hs)
theorem ttup {n : Nat} {sl : List Nat} {r : List D → Env → Option Env} (h : PGs X es (tGs c sl r)) (hc : X.calm = true := by rfl) (hn : (assignEach es X.env).length = n := by rfl) (hst : (assignEach es X.env).findIdx? (·.1) = none := by rfl) (hK : X.K = c.K := by rfl) : PG X (.Tuple es kk pos) (tG c sl (setTup n r)) :=
  dl_tgTup (by rw [← hK]; exact pg_tup hc h hn hst)
/-- the block of a comprehension -/
theorem gcomp {elt iter : Expr} {ifs : List Expr} {scope : Scope} {sl : List Nat} {ri : Env → Out (List D)} {rg : D → Env → Option Env} {rt : Env → Out Bool} {re : Env → Out D} (own : List (Str × Nat)) (hN : X.N.Nodup) (hi : PI X tg iter (tI c W ri)) (ok : blkC X.N X.env.scope scope own = true)
    (hg : ∀ (s : Shared) (H : Hp) (C : Addr) (cl : List (Str × Addr)) (fp : List Addr), PG (X.blk s H scope (compEnvC scope cl C X.env) fp) tg (tG c sl rg)) (ht : ∀ (s : Shared) (H : Hp) (C : Addr) (cl : List (Str × Addr)) (fp : List Addr), PTs (X.blk s H scope (compEnvC scope cl C X.env) fp) ifs (tT c W0 rt))
    (he : ∀ (s : Shared) (H : Hp) (C : Addr) (cl : List (Str × Addr)) (fp : List Addr), PE (X.blk s H scope (compEnvC scope cl C X.env) fp) elt (tD c W0 re)) (hsl : ∀ j, j ∈ sl → j ∈ own.map (·.2) := by decide) (hc : X.calm = true := by rfl) (hs : ∀ x, foldedSetIterable iter X.env x = pure x := by intro _; rfl) :
    PE X (.ListComp elt [⟨tg, iter, ifs, 0⟩] scope pos) (tF c W (compF (own.map (·.2)) ri rg rt re)) := dl_comp hsl (pe_lc hc hN hi (blkOk_by ok) hg ht he hs)
theorem gyes : PTs X [] (tT c W yesT) := dl_yesT pts_nil
theorem gtest1 (h : PT X e (tT c W ta)) : PTs X [e] (tT c W ta) := pts_one h
theorem sret (h : PE X e (tD c W ra)) : PS X (.Return (some e) pos) (tS c W (retS ra)) := dl_ret (ps_ret h)
theorem sretN : PS X (.Return none pos) (tS c W retNS) := dl_retN ps_retN
theorem sdrop (h : PE X e (tD c W ra)) (hs : swapsWith e none pos.line X.env = pure false := by rfl) : PS X (.Expr e pos) (tS c W (dropS ra)) := dl_drop (ps_expr h hs)
theorem sraise {st : Stmt} : PS X st (tS c W neverS) := dl_never ps_never
theorem s0 : PSs X [] (tS c W nextS) := dl_nil pss_nil
theorem s1 {st : Stmt} {ss : List Stmt} {r1 r2 : Env → Out Fl} (h : PS X st (tS c W r1)) (h2 : PSs X ss (tS c W r2)) : PSs X (st :: ss) (tS c W (seqS r1 r2)) := dl_seq (pss_cons h h2)
theorem sif {A B : List Stmt} {r1 r2 : Env → Out Fl} (h : PT X e (tT c W ta)) (h1 : PSs X A (tS c W r1)) (h2 : PSs X B (tS c W r2)) : PS X (.If e A B pos) (tS c W (ifS ta r1 r2)) := dl_if (ps_if h h1 h2)
theorem sfor {B : List Stmt} {iter : Expr} {ri : Env → Out (List D)} {sl : List Nat} {rg : D → Env → Option Env} {rb : Env → Out Fl} (hp : PassesOwn (model X.prog X.w) X.A X.env X.xe) (hi : PI X tg iter (tI c W ri)) (hg : PG X tg (tG c sl rg)) (hb : PSs X B (tS c W rb)) (hc : X.calm = true := by rfl)
    (hs : ∀ x, foldedSetIterable iter X.env x = pure x := by intro _; rfl) : PS X (.For tg iter B [] pos) (tS c W (forS ri rg sl rb)) := dl_for (ps_for hp hc hi hg hb hs)
theorem swhile (n : Nat) {B : List Stmt} {rb : Env → Out Fl} (hp : PassesOwn (model X.prog X.w) X.A X.env X.xe) (h : PT X e (tT c W ta)) (hb : PSs X B (tS c W rb)) : PS X (.While e B [] pos) (tS c W (whileS ta rb n)) := dl_while n (ps_while hp h hb)
/-- name = data -/
theorem sset (i : Nat) {pos' : Pos} (hN : X.N.Nodup) (h : PE X e (tD c W ra)) (hi : X.N[i]? = some x := by rfl) (hx : Loc X.env.scope x := by first | exact Or.inl rfl | exact Or.inr rfl) (hs : swapsWith e (some (.Name x pos')) pos.line X.env = pure false := by rfl)
    (hf : X.fn x = true ∨ X.env.scope.names.lookup x = some .local := by first | exact .inl rfl | exact .inr rfl) : PS X (.Assign [.Name x pos'] e pos) (tS c W (asgS ra (setD i) [i])) :=
  dl_asg ((ps_set hN hi hx h hs hf).imp fun D σ H ⟨H0, F, env, g, q⟩ => ⟨H0, F, env, g, q.mono fun d e F' H' s k v hv => by
    exact tgn_read (k v hv)⟩)
theorem ssetO (i : Nat) {pos' : Pos} {rf : Env → Out (List D)} (hN : X.N.Nodup) (h : PE X e (tF c W rf)) (hi : X.N[i]? = some x := by rfl) (hx : Loc X.env.scope x := by first | exact Or.inl rfl | exact Or.inr rfl) (hs : swapsWith e (some (.Name x pos')) pos.line X.env = pure false := by rfl)
    (hf : X.fn x = true ∨ X.env.scope.names.lookup x = some .local := by first | exact .inl rfl | exact .inr rfl) : PS X (.Assign [.Name x pos'] e pos) (tS c W (asgOS i rf)) := dl_asgO (ps_set hN hi hx h hs hf)
theorem sasg {sl : List Nat} {rg : D → Env → Option Env} (h : PE X e (tD c W ra)) (hg : PG X tg (tG c sl rg)) (hs : swapsWithSole [tg] e pos.line X.env = pure false := by rfl) (hw : swappedStores [tg] e X.env = pure none := by rfl) (h1 : (assignEach [tg] X.env).map (·.2) = [assign tg X.env] := by rfl) :
    PS X (.Assign [tg] e pos) (tS c W (asgS ra rg sl)) := dl_asg (ps_asg h hg hs hw h1)
end
end DL

/-! ==== DL20 -/
/-! DL20: the printed forms, calls and stores -/
namespace DL
open PySem PySem.Spec PyProof.Rows L2
section
variable {c : Kc} {W : WX} {X : Cx} {E : XK} {C f : Addr} {a b e o : Expr} {es : List Expr} {kws : List Keyword} {pos p apos : Pos} {x m : Str} {ra rb rc : Env → Out D} {rr rk : Env → Out (List It)} {k n : Nat} {fd : FuncData} {ps ks : List Str} {fn : List SV → Out D} {ds : List D} {dvs : List V} {dl : List Value}
theorem pass00 : Passes CX0 X E := fun _ _ _ _ _ _ _ h => h.elim
theorem gR0 : PA X [] (tR c W nilR) := tR_nil
theorem gRd (h : PE X e (tD c W ra)) (h2 : PA X es (tR c W rr)) (hs : starEach (e :: es) X.env = (false, eval e X.env) :: starEach es X.env := by rfl) : PA X (e :: es) (tR c W (consRd ra rr)) := tR_d (pa_cons h h2 hs)
theorem gRr (i : Nat) (h : PE X e (tVar i)) (h2 : PA X es (tR c W rr)) (hs : starEach (e :: es) X.env = (false, eval e X.env) :: starEach es X.env := by rfl) : PA X (e :: es) (tR c W (consRr i rr)) := tR_r (pa_cons h h2 hs)
theorem gK0 : PK X [] (tR c W nilR) := tK_nil
theorem gcall (hb : Binds X.K fd ps dl) (F : FnG X.prog X.w X.K X.mg X.base CX0 k f fd ps (spF c fn)) (hr : Room k X.A) (gd : X.A.guards = some []) (hd : Vals dvs dl) (hds : ∀ F, RpL c.K c.cm F ds dvs) (hm : X.mg x = some (.ref f)) (hk : PySem.W.keepIn X.K (.ref f) = true) (hl : LenR rr n) (ha : PA X (e :: es) (tR c W rr)) (hW : W = fun _ => E := by rfl) (hg : Gl X x := by rfl)
    (hdb : (x == ("__debug__" : Str)) = false := by decide) (he : starEach (e :: es) X.env = (false, eval e X.env) :: starEach es X.env := by rfl) (hpl : (backTo pos (starEach es X.env)).any (·.1) = false := by rfl) :
    PE X (.Call (.Name x p) (e :: es) [] pos) (tD c W (callS (fnCall fn) (posA ds) rr nilR)) :=
  dl_call1 (sp := fun vs _ H Q => spF c fn (vs ++ dvs) H Q E) (arr_pos hds) (callOk_fnE hW) (runs_fn F hr gd hb hd pass00) hl hg hm hk ha hdb he hpl
theorem gcallK {gD : List It → List It → List It} {gV : List V → List V → List V} {g : List Value → List Value → List Value} (A : Arr c gD gV) (hb : KBn X.K fd ps n ks g gV) (F : FnG X.prog X.w X.K X.mg X.base CX0 k f fd ps (spF c fn)) (hr : Room k X.A) (gd : X.A.guards = some []) (hm : X.mg x = some (.ref f)) (hk : PySem.W.keepIn X.K (.ref f) = true) (hl : LenR rr n) (hlk : LenR rk ks.length)
    (ha : PA X (e :: es) (tR c W rr)) (hkw : PK X kws (tR c W rk)) (hW : W = fun _ => E := by rfl) (hg : Gl X x := by rfl) (hall : (backToKw pos (keywordEach kws X.env)).all (·.1.isSome) = true := by rfl) (hks : (backToKw pos (keywordEach kws X.env)).filterMap (·.1) = ks := by rfl)
    (hdb : (x == ("__debug__" : Str)) = false := by decide) (he : starEach (e :: es) X.env = (false, eval e X.env) :: starEach es X.env := by rfl)
    (hpl : ((backTo pos (starEach (e :: es) X.env)).any (·.1) || (backToKw pos (keywordEach kws X.env)).any (·.1.isNone)) = false := by rfl) :
    PE X (.Call (.Name x p) (e :: es) kws pos) (tD c W (callS (fnCall fn) gD rr rk)) :=
  dl_callK (sp := fun vs zs H Q => spF c fn (gV vs zs) H Q E) A (callOk_fnE hW) (runs_fnK F hr gd hb pass00) hl hlk hg hm hk ha hkw hall hks hdb he hpl
theorem gmakeK {cn : Str} {fi : List SV → Out (List (Str × D))} {g : List Value → List Value → List Value} (M : Mk X.K C f) (hb : KBn X.K fd ps (n + 1) ks g fun vs zs => vs ++ zs) (F : FnG X.prog X.w X.K X.mg X.base CX0 k f fd ps (spI c C fi)) (hr : Room (k + 1) X.A) (gd : X.A.guards = some []) (hC : c.cm cn = some C) (hm : X.mg x = some (.ref C)) (hl : LenR rr n) (hlk : LenR rk ks.length)
    (ha : PA X (e :: es) (tR c W rr)) (hkw : PK X kws (tR c W rk)) (hW : W = fun _ => E := by rfl) (hg : Gl X x := by rfl) (hall : (backToKw pos (keywordEach kws X.env)).all (·.1.isSome) = true := by rfl) (hks : (backToKw pos (keywordEach kws X.env)).filterMap (·.1) = ks := by rfl)
    (hdb : (x == ("__debug__" : Str)) = false := by decide) (he : starEach (e :: es) X.env = (false, eval e X.env) :: starEach es X.env := by rfl)
    (hpl : ((backTo pos (starEach (e :: es) X.env)).any (·.1) || (backToKw pos (keywordEach kws X.env)).any (·.1.isNone)) = false := by rfl) :
    PE X (.Call (.Name x p) (e :: es) kws pos) (tD c W (callS (mkCall cn fi) kwA rr rk)) :=
  dl_callK (sp := spMake C (spI c C fi) (fun vs zs => vs ++ zs) E) arr_kw (callOk_mkE hW hC) (runs_makeK (gV := fun vs zs => vs ++ zs) M F hr gd hb (fun _ _ _ => rfl) pass00) hl hlk hg hm M.kp ha hkw hall hks hdb he hpl
theorem gmeth {cn : Str} {pl : Sem Bool} (hb : Binds X.K fd ps dl) (F : FnG X.prog X.w X.K X.mg X.base CX0 k f fd ps (spF c fn)) (hr : Room k X.A) (gd : X.A.guards = some []) (hd : Vals dvs dl) (hds : ∀ F, RpL c.K c.cm F ds dvs) (hc : c.cm cn = some C) (cl : Cls X.K C) (hm : Meth X.K C m f) (hl : LenR rr n) (ho : PE X o (tD c W ra)) (ha : PA X (e :: es) (tR c W rr)) (hW : W = fun _ => E := by rfl)
    (hst : starEach (e :: es) X.env = (false, eval e X.env) :: starEach es X.env := by rfl) (hpl : (backTo pos (starEach es X.env)).any (·.1) = false := by rfl)
    (ht : eval (.Call (.Attribute o m apos) (e :: es) [] pos) X.env = (do
      let ov ← eval o X.env
      standAt apos.atName
      let (f, first) ← holding [ov] (getMethod ov m pl)
      callWith pos f first (backTo pos (starEach (e :: es) X.env)) (backToKw pos (keywordEach [] X.env))) := by rfl) :
    PE X (.Call (.Attribute o m apos) (e :: es) [] pos) (tD c W (methS cn m fn ds ra rr)) := dl_meth hW hc (runs_fn F hr gd hb hd pass00) hds hl cl hm ho ha hst hpl ht
theorem gmeth0 {cn : Str} {pl : Sem Bool} (hb : Binds X.K fd ps dl) (F : FnG X.prog X.w X.K X.mg X.base CX0 k f fd ps (spF c fn)) (hr : Room k X.A) (gd : X.A.guards = some []) (hd : Vals dvs dl) (hds : ∀ F, RpL c.K c.cm F ds dvs) (hc : c.cm cn = some C) (cl : Cls X.K C) (hm : Meth X.K C m f) (ho : PE X o (tD c W ra)) (hW : W = fun _ => E := by rfl)
    (ht : eval (.Call (.Attribute o m apos) [] [] pos) X.env = (do
      let ov ← eval o X.env
      standAt apos.atName
      let (f, first) ← holding [ov] (getMethod ov m pl)
      callWith pos f first (backTo pos (starEach [] X.env)) (backToKw pos (keywordEach [] X.env))) := by rfl) :
    PE X (.Call (.Attribute o m apos) [] [] pos) (tD c W (methS cn m fn ds ra nilR)) := dl_meth0 hW hc (runs_fn F hr gd hb hd pass00) hds cl hm ho ht
/-- a def that gives a new list -/
theorem gcallL {fl : List SV → Out (List D)} (hb : Binds X.K fd ps []) (F : FnG X.prog X.w X.K X.mg X.base CX0 k f fd ps (spL c fl)) (hr : Room k X.A) (gd : X.A.guards = some []) (hm : X.mg x = some (.ref f)) (hk : PySem.W.keepIn X.K (.ref f) = true) (hl : LenR rr n) (ha : PA X (e :: es) (tR c W rr)) (hW : W = fun _ => E := by rfl) (hg : Gl X x := by rfl)
    (hdb : (x == ("__debug__" : Str)) = false := by decide) (he : starEach (e :: es) X.env = (false, eval e X.env) :: starEach es X.env := by rfl) (hpl : (backTo pos (starEach es X.env)).any (·.1) = false := by rfl) :
    PE X (.Call (.Name x p) (e :: es) [] pos) (tF c W (callLS fl rr)) := by
  have R : Runs X (.ref f) n [] fun vs _ H Q => spL c fl vs H Q E := by
    have := runs_fn (n := n) (E := E) F hr gd hb .nil pass00
    exact ⟨fun pins s σ H Q vs us zs ws I r rz l1 l2 h => this.run pins s σ H Q vs us zs ws I r rz l1 l2 (by rw [List.append_nil]; exact h)⟩
  exact dl_callL hW R hl hg hm hk ha hdb he hpl
theorem gcallF {rl : Env → Out OV} (hb : Binds X.K fd ps []) (F : FnG X.prog X.w X.K X.mg X.base CX0 k f fd ps (spF c fn)) (hr : Room k X.A) (gd : X.A.guards = some []) (hm : X.mg x = some (.ref f)) (hk : PySem.W.keepIn X.K (.ref f) = true) (hl : LenR rr n) (h : PE X e (tNew c W rl)) (ha : PA X es (tR c W rr)) (hW : W = fun _ => E := by rfl) (hg : Gl X x := by rfl)
    (hdb : (x == ("__debug__" : Str)) = false := by decide) (he : starEach (e :: es) X.env = (false, eval e X.env) :: starEach es X.env := by rfl) (hpl : (backTo pos (starEach es X.env)).any (·.1) = false := by rfl) :
    PE X (.Call (.Name x p) (e :: es) [] pos) (tD c W (callFS fn rl rr)) := dl_callF hW (runs_fn F hr gd hb .nil pass00) hl hg hm hk (pa_cons h ha he) hdb he hpl
theorem gvar (i : Nat) (hN : X.N[i]? = some x := by rfl) (hv : Vis X.env.scope x := by first | exact Or.inl rfl | exact Or.inr (Or.inl rfl) | exact Or.inr (Or.inr rfl)) (hd : (x == ("__debug__" : Str)) = false := by decide)
    (hcd : (x == ("__classdict__" : Str)) = false := by decide) : PE X (.Name x pos) (tVar i) := pe_var hN hv hd hcd
theorem held_read {rf : Env → Out (List D)} {σ : L2.St} {H : Hp} {Q : VK} (h : tD c W (heldD rf) σ H Q) : tF c W rf σ H Q := by
  obtain ⟨H0, F, env, g, q⟩ := h
  refine ⟨H0, F, env, g, q.seq fun ds e1 F1 H1 s1 q1 v ⟨p, xs, hv, ap, r⟩ => ?_⟩
  subst hv
  have s := s1.good.hold ap
  refine q1 _ _ s _ ?_
  simp only [Rp]
  exact ⟨p, xs, rfl, upd_same, RpL.mono s.same _ _ r⟩
end
section
variable {c : Kc} {W : WX} {X : Cx} {a b e o tg : Expr} {es : List Expr} {pos p apos p1 p2 : Pos} {x y z : Str} {ra rb rc : Env → Out D}
/-- name = [.. for ..] on one line -/
theorem ssetLcO (i : Nat) {py spos : Pos} {elt iter : Expr} {ifs : List Expr} {scope : Scope} {sl : List Nat} {ri : Env → Out (List D)} {rg : D → Env → Option Env} {rt : Env → Out Bool} {re : Env → Out D} (own : List (Str × Nat)) (hN : X.N.Nodup) (hi : PI X tg iter (tI c W ri)) (ok : blkC X.N X.env.scope scope own = true)
    (hg : ∀ (s : Shared) (H : Hp) (C : Addr) (cl : List (Str × Addr)) (fp : List Addr), PG (X.blk s H scope (compEnvC scope cl C X.env) fp) tg (tG c sl rg)) (ht : ∀ (s : Shared) (H : Hp) (C : Addr) (cl : List (Str × Addr)) (fp : List Addr), PTs (X.blk s H scope (compEnvC scope cl C X.env) fp) ifs (tT c W0 rt))
    (he : ∀ (s : Shared) (H : Hp) (C : Addr) (cl : List (Str × Addr)) (fp : List Addr), PE (X.blk s H scope (compEnvC scope cl C X.env) fp) elt (tD c W0 re)) (hsl : ∀ j, j ∈ sl → j ∈ own.map (·.2) := by decide) (hc : X.calm = true := by rfl) (hs : ∀ x, foldedSetIterable iter X.env x = pure x := by intro _; rfl)
    (hy : X.N[i]? = some y := by rfl) (hyl : X.env.scope.names.lookup y = some .local := by rfl) (hsw : swapsWith (.ListComp elt [⟨tg, iter, ifs, 0⟩] scope pos) (some (.Name y py)) spos.line X.env = pure true := by rfl) :
    PS X (.Assign [.Name y py] (.ListComp elt [⟨tg, iter, ifs, 0⟩] scope pos) spos) (tS c W (asgOS i (compF (own.map (·.2)) ri rg rt re))) :=
  dl_asgO ((ps_setLc hc hN hy hyl hsw hi (blkOk_by ok) hg ht he hs).imp fun D σ H q => comp_read hsl q)
theorem ssetLc (i : Nat) {py spos : Pos} {elt iter : Expr} {ifs : List Expr} {scope : Scope} {sl : List Nat} {ri : Env → Out (List D)} {rg : D → Env → Option Env} {rt : Env → Out Bool} {re : Env → Out D} (own : List (Str × Nat)) (hN : X.N.Nodup) (hi : PI X tg iter (tI c W ri)) (ok : blkC X.N X.env.scope scope own = true)
    (hg : ∀ (s : Shared) (H : Hp) (C : Addr) (cl : List (Str × Addr)) (fp : List Addr), PG (X.blk s H scope (compEnvC scope cl C X.env) fp) tg (tG c sl rg)) (ht : ∀ (s : Shared) (H : Hp) (C : Addr) (cl : List (Str × Addr)) (fp : List Addr), PTs (X.blk s H scope (compEnvC scope cl C X.env) fp) ifs (tT c W0 rt))
    (he : ∀ (s : Shared) (H : Hp) (C : Addr) (cl : List (Str × Addr)) (fp : List Addr), PE (X.blk s H scope (compEnvC scope cl C X.env) fp) elt (tD c W0 re)) (hsl : ∀ j, j ∈ sl → j ∈ own.map (·.2) := by decide) (hc : X.calm = true := by rfl) (hs : ∀ x, foldedSetIterable iter X.env x = pure x := by intro _; rfl)
    (hy : X.N[i]? = some y := by rfl) (hyl : X.env.scope.names.lookup y = some .local := by rfl) (hsw : swapsWith (.ListComp elt [⟨tg, iter, ifs, 0⟩] scope pos) (some (.Name y py)) spos.line X.env = pure true := by rfl) :
    PS X (.Assign [.Name y py] (.ListComp elt [⟨tg, iter, ifs, 0⟩] scope pos) spos) (tS c W (asgS (heldD (compF (own.map (·.2)) ri rg rt re)) (setD i) [i])) :=
  dl_asg ((ps_setLc hc hN hy hyl hsw hi (blkOk_by ok) hg ht he hs).imp fun D σ H q => comp_read hsl (held_read (Q := fun v H1 => gName i v σ H1 D.nx) (by
    obtain ⟨H0, F, env, g, q⟩ := q
    exact ⟨H0, F, env, g, q.mono fun d e F' H' s k v hv => tgn_read (k v hv)⟩)))
theorem sapp (i : Nat) (h : PE X o (tVar i)) (h2 : PE X e (tD c W ra)) (hs1 : swapsWith (.Call (.Attribute o "append" apos) [e] [] p) none pos.line X.env = pure false := by rfl) (hbase : attributeBase o "append" X.env (eval o X.env) = eval o X.env := by rfl)
    (hfew : ((backTo p (starEach [e] X.env)).all (fun x => !x.1) && (backToKw p (keywordEach [] X.env)).all (fun x => x.1.isSome)
      && decide (([e] : List Expr).length + ([] : List Keyword).length + (if ([] : List Keyword).isEmpty then 0 else 1) < 30)) = true := by rfl)
    (hline : (apos.endLine == p.line) = true := by rfl) (hs : starEach [e] X.env = (false, eval e X.env) :: starEach [] X.env := by rfl) (hplain : (backTo p (starEach [] X.env)).any (·.1) = false := by rfl) (hK : X.K = c.K := by rfl) :
    PS X (.Expr (.Call (.Attribute o "append" apos) [e] [] p) pos) (tS c W (appS i ra)) :=
  dl_app (by rw [← hK]; exact ps_expr (pe_bm PySem.F.plainAttrs_list PySem.F.slot_list_append PySem.F.type_list_append mt_append h (pa_cons h2 pa_nil hs) hbase hfew hline hs hplain) hs1)
theorem sext (i : Nat) (h : PE X o (tVar i)) (h2 : PE X e (tD c W ra)) (hs1 : swapsWith (.Call (.Attribute o "extend" apos) [e] [] p) none pos.line X.env = pure false := by rfl) (hbase : attributeBase o "extend" X.env (eval o X.env) = eval o X.env := by rfl)
    (hfew : ((backTo p (starEach [e] X.env)).all (fun x => !x.1) && (backToKw p (keywordEach [] X.env)).all (fun x => x.1.isSome)
      && decide (([e] : List Expr).length + ([] : List Keyword).length + (if ([] : List Keyword).isEmpty then 0 else 1) < 30)) = true := by rfl)
    (hline : (apos.endLine == p.line) = true := by rfl) (hs : starEach [e] X.env = (false, eval e X.env) :: starEach [] X.env := by rfl) (hplain : (backTo p (starEach [] X.env)).any (·.1) = false := by rfl) (hK : X.K = c.K := by rfl) :
    PS X (.Expr (.Call (.Attribute o "extend" apos) [e] [] p) pos) (tS c W (extS i ra)) :=
  dl_ext (by rw [← hK]; exact ps_expr (pe_bm PySem.F.plainAttrs_list PySem.F.slot_list_extend PySem.F.type_list_extend mt_extend h (pa_cons h2 pa_nil hs) hbase hfew hline hs hplain) hs1)
theorem sstore (i : Nat) (h : PE X o (tVar i)) (hk : PE X b (tD c W rb)) (hv : PE X e (tD c W ra))
    (ha : ∀ v, assign (.Subscript o b p) X.env v = (do
      let ov ← holding [v] (eval o X.env)
      let iv ← holding [v, ov] (eval b X.env)
      standAt p
      holding [v, ov, iv] (setItem ov iv v)
      release [v, ov, iv] []) := by intro _; rfl)
    (hs : swapsWithSole [.Subscript o b p] e pos.line X.env = pure false := by rfl) (hw : swappedStores [.Subscript o b p] e X.env = pure none := by rfl) (h1 : (assignEach [.Subscript o b p] X.env).map (·.2) = [assign (.Subscript o b p) X.env] := by rfl) :
    PS X (.Assign [.Subscript o b p] e pos) (tS c W (storeS i rb ra)) := dl_store (ps_asg hv (pg_sub h hk set_list ha) hs hw h1)
/-! assignments side by side -/
theorem gM0 : PA X [] (tM c W nilM) := tM_nil
theorem gMd {rm : Env → Out (List M)} (h : PE X e (tD c W ra)) (h2 : PA X es (tM c W rm)) (hs : starEach (e :: es) X.env = (false, eval e X.env) :: starEach es X.env := by rfl) : PA X (e :: es) (tM c W (consMd ra rm)) := tM_d (pa_cons h h2 hs)
theorem gMf {ro : Env → Out OV} {rm : Env → Out (List M)} (h : PE X e (tNew c W ro)) (h2 : PA X es (tM c W rm)) (hs : starEach (e :: es) X.env = (false, eval e X.env) :: starEach es X.env := by rfl) : PA X (e :: es) (tM c W (consMf ro rm)) := tM_f (pa_cons h h2 hs)
theorem spar2 (i j : Nat) {rm : Env → Out (List M)} {px py pt : Pos} {kt k2 pt2} (hN : X.N.Nodup) (ha : PA X [a, b] (tM c W rm)) (hij : i ≠ j := by decide) (hc : X.calm = true := by rfl) (hi : X.N[i]? = some x := by rfl) (hj : X.N[j]? = some y := by rfl)
    (hx : X.env.scope.names.lookup x = some .local := by rfl) (hy : X.env.scope.names.lookup y = some .local := by rfl) (hw : swappedStores [.Tuple [.Name x px, .Name y py] kt pt] (.Tuple [a, b] k2 pt2) X.env = pure (some [x, y]) := by rfl)
    (hs : swapsWithSole [.Tuple [.Name x px, .Name y py] kt pt] (.Tuple [a, b] k2 pt2) pos.line X.env = pure false := by rfl) : PS X (.Assign [.Tuple [.Name x px, .Name y py] kt pt] (.Tuple [a, b] k2 pt2) pos) (tS c W (parS [i, j] rm)) :=
  dl_par2 (ps_par hc hN hi hj hij hx hy ha hw hs)
theorem spar3 (i j l : Nat) {rm : Env → Out (List M)} {d : Expr} {px py pz pt : Pos} {kt k2 pt2} (hN : X.N.Nodup) (ha : PA X [a, b, d] (tM c W rm)) (hij : i ≠ j := by decide) (hil : i ≠ l := by decide) (hjl : j ≠ l := by decide) (hc : X.calm = true := by rfl) (hi : X.N[i]? = some x := by rfl) (hj : X.N[j]? = some y := by rfl) (hl : X.N[l]? = some z := by rfl)
    (hx : X.env.scope.names.lookup x = some .local := by rfl) (hy : X.env.scope.names.lookup y = some .local := by rfl) (hz : X.env.scope.names.lookup z = some .local := by rfl) (hw : swappedStores [.Tuple [.Name x px, .Name y py, .Name z pz] kt pt] (.Tuple [a, b, d] k2 pt2) X.env = pure (some [x, y, z]) := by rfl)
    (hs : swapsWithSole [.Tuple [.Name x px, .Name y py, .Name z pz] kt pt] (.Tuple [a, b, d] k2 pt2) pos.line X.env = pure false := by rfl) : PS X (.Assign [.Tuple [.Name x px, .Name y py, .Name z pz] kt pt] (.Tuple [a, b, d] k2 pt2) pos) (tS c W (parS [i, j, l] rm)) :=
  dl_par3 (ps_par3 hc hN hi hj hl hij hil hjl hx hy hz ha hw hs)
theorem gN0 : PGs X [] (gNames []) := pgs_nil
theorem gN1 (i : Nat) {is : List Nat} (hN : X.N.Nodup) (h2 : PGs X es (gNames is)) (hi : X.N[i]? = some x := by rfl) (hx : Loc X.env.scope x := by first | exact Or.inl rfl | exact Or.inr rfl) (hf : X.fn x = true ∨ X.env.scope.names.lookup x = some .local := by first | exact .inl rfl | exact .inr rfl)
    (hs : (assignEach (.Name x pos :: es) X.env).map (·.2) = assign (.Name x pos) X.env :: (assignEach es X.env).map (·.2) := by rfl) : PGs X (.Name x pos :: es) (gNames (i :: is)) := pgs_cons (pg_name hN hi hx hf) h2 hs
theorem sparT {is : List Nat} {n : Nat} {tgs vals : List Expr} {rm : Env → Out (List M)} {k1 k2 : Nat} (hg : PGs X tgs (gNames is)) (ha : PA X vals (tM c W rm)) (hn : (assignEach tgs X.env).length = n := by rfl) (hni : n = is.length := by rfl) (hc : X.calm = true := by rfl) (hst : (assignEach tgs X.env).findIdx? (·.1) = none := by rfl)
    (hs : swapsWithSole [.Tuple tgs k1 p1] (.Tuple vals k2 p2) pos.line X.env = pure false := by rfl) (hw : swappedStores [.Tuple tgs k1 p1] (.Tuple vals k2 p2) X.env = pure none := by rfl) (h1 : (assignEach [.Tuple tgs k1 p1] X.env).map (·.2) = [assign (.Tuple tgs k1 p1) X.env] := by rfl) (hK : X.K = c.K := by rfl) :
    PS X (.Assign [.Tuple tgs k1 p1] (.Tuple vals k2 p2) pos) (tS c W (parT is rm)) := dl_parT hni (by rw [← hK]; exact ps_asg (pe_tup ha) (pg_tup hc hg hn hst) hs hw h1)
/-! __init__ -/
variable {C : Addr}
theorem n0 : PSs X [] (tN c C W nilN) := dl_nilN
theorem n1 {st : Stmt} {ss : List Stmt} {r1 r2 : Env → List (Str × D) → Out (List (Str × D))} (h : PS X st (tN c C W r1)) (h2 : PSs X ss (tN c C W r2)) : PSs X (st :: ss) (tN c C W (seqN r1 r2)) := dl_seqN h h2
theorem ndo (h : PE X e (tD c W ra)) (hs : swapsWith e none pos.line X.env = pure false := by rfl) : PS X (.Expr e pos) (tN c C W (doN ra)) := dl_doN h hs
theorem nfld {f : Str} {pos' : Pos} (hc : Cls X.K C ∧ NoAttr X.K C f) (ho : PE X o (tVar 0)) (h : PE X e (tD c W ra)) (hs : swapsWith e (some (.Attribute o f pos')) pos.line X.env = pure false := by rfl) : PS X (.Assign [.Attribute o f pos'] e pos) (tN c C W (fldN f ra)) := dl_fldN hc ho h hs
/-! new lists given back -/
theorem l0 : PSs X [] (tL c W nilL) := dl_nilL
theorem l1 {st : Stmt} {ss : List Stmt} {r1 : Env → Out Fl} {r2 : Env → Out (Option (List D))} (h : PS X st (tS c W r1)) (h2 : PSs X ss (tL c W r2)) : PSs X (st :: ss) (tL c W (seqL r1 r2)) := dl_seqL h h2
theorem l2 {st : Stmt} {ss : List Stmt} {r1 r2 : Env → Out (Option (List D))} (h : PS X st (tL c W r1)) (h2 : PSs X ss (tL c W r2)) : PSs X (st :: ss) (tL c W (thenL r1 r2)) := dl_thenL h h2
theorem lret {rf : Env → Out (List D)} (h : PE X e (tF c W rf)) : PS X (.Return (some e) pos) (tL c W (retL rf)) := dl_retL (ps_ret h)
theorem lif {A B : List Stmt} {ta : Env → Out Bool} {r1 r2 : Env → Out (Option (List D))} (h : PT X e (tT c W ta)) (h1 : PSs X A (tL c W r1)) (h2 : PSs X B (tL c W r2)) : PS X (.If e A B pos) (tL c W (ifL ta r1 r2)) := dl_ifL (ps_if h h1 h2)
theorem gnewL {rf : Env → Out (List D)} (h : PE X e (tF c W rf)) : PE X e (tNew c W (newL rf)) := dl_newL h
theorem gheld {rf : Env → Out (List D)} (h : PE X e (tF c W rf)) : PE X e (tD c W (heldD rf)) := dl_held h
theorem gnewK {k1 : Pos} : PE X (.Dict [] [] k1) (tNew c W newK) := dl_newK pe_dnewK
theorem gnewT {k1 : Pos} : PE X (.Dict [] [] k1) (tNew c W newT) := dl_newT pe_dnewT
end
section
variable {K : PySem.W.Frag}
theorem kbn_of {x qual : Str} {pa : Arguments} {body : List Stmt} {sc : Scope} {kws : List (Str × V)} {f : Addr} {fd : FuncData} {ps ks : List Str} {n : Nat} (F : FunD K x qual pa body sc [] kws f fd)
    (h : ∀ (kV doc pm : Value) (an : Option Addr) (cdv ct : Value) (us ws : List Value), us.length = n → ws.length = ks.length → bindArgs (PySem.W.fnOf x qual pa body sc .none kV doc pm an cdv ct) ⟨us, ks.zip ws⟩ = pure (ps.zip (us ++ ws))) :
    KBn K fd ps n ks (fun us ws => us ++ ws) (fun vs zs => vs ++ zs) := by
  obtain ⟨oc, od, dV, kV, doc, pm, an, cdv, ct, osl, rfl, lk, hcd, hD, hK⟩ := F.ex
  rcases hD with ⟨_, rfl⟩ | ⟨e, _⟩
  · exact ⟨fun s us ws _ h1 h2 => .of_eq (h kV doc pm an cdv ct us ws h1 h2), fun r1 r2 => r1.append r2⟩
  · exact absurd rfl e
theorem kit_of (t : String) (h : ∀ n ∈ ["NoneType", "int", "str", "tuple", "list", "dict"], ∀ b, kbTy t n = some b → PySem.W.kitOne K (.type n) (.type t) = some b) (h2 : PySem.W.kitOne K (.type t) (.type t) = some true) : ∀ n b, kbTy t n = some b → PySem.W.kitOne K (.type n) (.type t) = some b := fun n b e => by
  by_cases hn : n = t
  · subst hn
    unfold kbTy at e
    rw [if_pos rfl] at e
    cases e
    exact h2
  · have e0 := e
    unfold kbTy at e
    rw [if_neg hn] at e
    split at e
    · rename_i hh
      simp only [Bool.and_eq_true] at hh
      exact h n (List.contains_iff_mem.mp hh.1) b e0
    · cases e
theorem kit_str : ∀ n b, kbTy "str" n = some b → PySem.W.kitOne K (.type n) (.type "str") = some b := kit_of "str" (fun n hn b e => by
  simp only [List.mem_cons, List.not_mem_nil, or_false] at hn
  rcases hn with rfl | rfl | rfl | rfl | rfl | rfl <;> (simp [kbTy] at e; subst e; first | rfl | decide +kernel)) (by first | rfl | decide +kernel)
theorem kit_tuple : ∀ n b, kbTy "tuple" n = some b → PySem.W.kitOne K (.type n) (.type "tuple") = some b := kit_of "tuple" (fun n hn b e => by
  simp only [List.mem_cons, List.not_mem_nil, or_false] at hn
  rcases hn with rfl | rfl | rfl | rfl | rfl | rfl <;> (simp [kbTy] at e; subst e; first | rfl | decide +kernel)) (by first | rfl | decide +kernel)
theorem kit_int : ∀ n b, kbTy "int" n = some b → PySem.W.kitOne K (.type n) (.type "int") = some b := kit_of "int" (fun n hn b e => by
  simp only [List.mem_cons, List.not_mem_nil, or_false] at hn
  rcases hn with rfl | rfl | rfl | rfl | rfl | rfl <;> (simp [kbTy] at e; subst e; first | rfl | decide +kernel)) (by first | rfl | decide +kernel)
theorem kit_list : ∀ n b, kbTy "list" n = some b → PySem.W.kitOne K (.type n) (.type "list") = some b := kit_of "list" (fun n hn b e => by
  simp only [List.mem_cons, List.not_mem_nil, or_false] at hn
  rcases hn with rfl | rfl | rfl | rfl | rfl | rfl <;> (simp [kbTy] at e; subst e; first | rfl | decide +kernel)) (by first | rfl | decide +kernel)
theorem kit_dict : ∀ n b, kbTy "dict" n = some b → PySem.W.kitOne K (.type n) (.type "dict") = some b := kit_of "dict" (fun n hn b e => by
  simp only [List.mem_cons, List.not_mem_nil, or_false] at hn
  rcases hn with rfl | rfl | rfl | rfl | rfl | rfl <;> (simp [kbTy] at e; subst e; first | rfl | decide +kernel)) (by first | rfl | decide +kernel)
theorem kit_bool : ∀ n b, kbTy "bool" n = some b → PySem.W.kitOne K (.type n) (.type "bool") = some b := kit_of "bool" (fun n hn b e => by
  simp only [List.mem_cons, List.not_mem_nil, or_false] at hn
  rcases hn with rfl | rfl | rfl | rfl | rfl | rfl <;> (simp [kbTy] at e; subst e; first | rfl | decide +kernel)) (by first | rfl | decide +kernel)
end
end DL

/-! ==== DL21 -/
/-! DL21: the law's own promise -/
namespace DL
open PySem PySem.Spec PyProof.Rows L2
/-- law's: a list of at most 63 ints is handed in, True comes out -/
def spLaw (K : PySem.W.Frag) : L2.Sp := fun vs H Q _ => ∃ (a : Addr) (ns : List Int), vs = [.ref a] ∧ SqL K H a (ns.map V.int) ∧ ns.length ≤ 63 ∧ ∀ H', Q (.bl true) H'
theorem rpl_ints {K : PySem.W.Frag} {cm : Str → Option Addr} {F : Hp} : ∀ ns : List Int, RpL K cm F (ns.map D.int) (ns.map V.int)
  | [] => .nil
  | n :: ns => .cons (by simp only [Rp]) (rpl_ints ns)
theorem law_imp {c : Kc} {fn : List SV → Out D} {vs : List V} {H : Hp} {Q : VK} {E : XK} (h : ∀ ns : List Int, ns.length ≤ 63 → ∃ e, fn [.dat (.ro (ns.map D.int))] = .ok (.bl true) e) (q : spLaw c.K vs H Q E) : spF c fn vs H Q E := by
  obtain ⟨a, ns, rfl, hS, hl, k⟩ := q
  obtain ⟨e, he⟩ := h ns hl
  refine ⟨H, [.dat (.ro (ns.map D.int))], ⟨Same.refl _, rfl, fun i sv q => ?_, fun i j sv tv b n q1 q2 o1 o2 r => ?_, fun b o e _ => e, fun i o b q _ => ?_⟩, rfl, ?_⟩
  · cases i with
    | zero =>
      simp at q
      subst q
      refine ⟨.ref a, rfl, ?_⟩
      simp only [Rp]
      exact ⟨a, _, rfl, hS, rpl_ints ns⟩
    | succ i => simp at q
  · cases i with
    | zero => simp at q1; subst q1; cases o1
    | succ i => simp at q1
  · cases i with
    | zero => simp at q
    | succ i => simp at q
  · rw [he]
    intro F' H' st v hv
    simp only [Rp] at hv
    subst hv
    exact k H'
theorem walk {l : PySem.W.OpenLaw} {q : Program} {loose : List Str} {XP : (Str → Option Value) → Heap → Prop} {YP : World → Heap → Prop} {d : DefRec} {K : Params → PySem.W.Frag} {k : Nat} {x : Str} (hr : Room k callerA) (hn : l.most = some 63) (hdf : d.params.defaults = [])
    (hY : ∀ (w : World) (h : Heap), YP w h → (K w.params).In h)
    (F : ∀ (w : World) (mg : Str → Option Value) (fa : Addr) (h : Heap), (K w.params).In h → h.Ns mainGlobals mg → mg d.name = some (.ref fa) →
      ∃ fd : FuncData, (∀ (s : Shared) (u : Value), BindsTo s fd ⟨[u], []⟩ [(x, u)]) ∧ ∀ base : Heap, (K w.params).In base → base.Ns mainGlobals mg → FnG l.prog w (K w.params) mg base CX0 k fa fd [x] (spLaw (K w.params))) :
    PySem.W.WalkO q loose XP YP l.row.toRowW d [] (fun f vs => PySem.call f vs) :=
  walkG_of (n := 63) (k := k) (x := x) (CX := fun _ => CX0) (sp := fun w => spLaw (K w.params)) hn (by decide) hdf hr hY F (fun _ _ a ns hl _ hS => ⟨a, ns, rfl, hS, hl, fun _ => rfl⟩) fun _ _ _ _ _ z => z
theorem kit_self {K : PySem.W.Frag} {C : Addr} : PySem.W.kitOne K (.ref C) (.ref C) = some true := by
  unfold PySem.W.kitOne
  rw [if_pos (by simp)]
end DL

/-! ==== DL22 -/
/-! DL22: is None, is not None -/
namespace DL
open PySem PySem.Spec PyProof.Rows L2
def isNonF : D → Bool
  | .non => true
  | _ => false
def isF (n : Bool) (x y : D) : Option D := match y with
  | .non => some (.bl (if n then !isNonF x else isNonF x))
  | _ => none
section
variable {c : Kc} {X : Cx}
theorem isNon_rp {K : PySem.W.Frag} {cm : Str → Option Addr} {F : Hp} {x : D} {v : V} (h : Rp K cm F x v) : decide (v = .non) = isNonF x := by
  cases x with
  | non => simp only [Rp] at h; subst h; rfl
  | bl b => simp only [Rp] at h; subst h; rfl
  | int b => simp only [Rp] at h; subst h; rfl
  | str b => simp only [Rp] at h; subst h; rfl
  | tup l => simp only [Rp] at h; obtain ⟨a, xs, rfl, _⟩ := h; rfl
  | lst l => simp only [Rp] at h; obtain ⟨a, xs, rfl, _⟩ := h; rfl
  | ro l => simp only [Rp] at h; obtain ⟨a, xs, rfl, _⟩ := h; rfl
  | dK ks l => simp only [Rp] at h; obtain ⟨a, xs, rfl, _⟩ := h; rfl
  | dT ks l => simp only [Rp] at h; obtain ⟨a, xs, rfl, _⟩ := h; rfl
  | obj cn ns l => simp only [Rp] at h; obtain ⟨a, dx, C, fs, rfl, _⟩ := h; rfl
theorem kis : CmpOk c X .Is (pur2 (isF false)) := ⟨_, op_isN, prim2 fun H0 F H env σ x y v u d Q g hx hy e k => by
  unfold isF at e
  split at e
  · cases e
    simp only [Rp] at hy
    exact ⟨hy, by rw [isNon_rp hx]; exact k F H (Step.refl g) _ (by simp [Rp])⟩
  · cases e⟩
theorem kisn : CmpOk c X .IsNot (pur2 (isF true)) := ⟨_, op_notN, prim2 fun H0 F H env σ x y v u d Q g hx hy e k => by
  unfold isF at e
  split at e
  · cases e
    simp only [Rp] at hy
    exact ⟨hy, by rw [isNon_rp hx]; exact k F H (Step.refl g) _ (by simp [Rp])⟩
  · cases e⟩
end
end DL

/-! ==== DL23 -/
/-! DL23: calls by any pattern: positional values, keywords in any order, one default -/
namespace DL
open PySem PySem.Spec PyProof.Rows L2
/-- behind the positional values: the j-th keyword's value, or the default -/
def layL {α : Type} (z dv : α) (pl : List (Option Nat)) (us ws : List α) : List α := us ++ pl.map fun o => match o with | some j => ws.getD j z | none => dv
section
variable {c : Kc} {F : Hp} {env : Env} {σ : L2.St}
theorem its_get : ∀ {jts : List It} {zs : List V} (j : Nat), ItsOk c F env σ jts zs → ItsOk c F env σ [jts.getD j (.d .non)] [zs.getD j .non]
  | [], zs, j, h => by
    rw [show zs = [] from h]
    exact ⟨.non, [], rfl, by simp only [Rp], rfl⟩
  | .d x :: jts, _, 0, ⟨v, r, e, h, t⟩ => by subst e; exact ⟨v, [], rfl, h, rfl⟩
  | .d x :: jts, _, j + 1, ⟨v, r, e, h, t⟩ => by subst e; exact its_get (jts := jts) j t
  | .r i :: jts, _, 0, ⟨v, r, e, h, o, t⟩ => by subst e; exact ⟨v, [], rfl, h, o, rfl⟩
  | .r i :: jts, _, j + 1, ⟨v, r, e, h, o, t⟩ => by subst e; exact its_get (jts := jts) j t
theorem arr_lay {d : D} {v : V} {pl : List (Option Nat)} (hd : ∀ F, Rp c.K c.cm F d v) : Arr c (layL (.d .non) (.d d) pl) (layL .non v pl) := ⟨fun F env σ its jts vs zs h k => by
  refine its_app h ?_
  induction pl with
  | nil => rfl
  | cons o pl ih =>
    have e1 : ItsOk c F env σ [match o with | some j => jts.getD j (.d .non) | none => .d d] [match o with | some j => zs.getD j .non | none => v] := by
      cases o with
      | some j => exact its_get j k
      | none => exact ⟨v, [], rfl, hd F, rfl⟩
    exact its_app e1 ih⟩
end
section
variable {K : PySem.W.Frag} {x qual : Str} {pa : Arguments} {body : List Stmt} {sc : Scope} {kws : List (Str × V)} {f : Addr} {fd : FuncData} {ps ks : List Str} {n : Nat}
theorem vals_getD : ∀ {zs : List V} {ws : List Value} (j : Nat), Vals zs ws → RelV (zs.getD j .non) (ws.getD j .none)
  | _, _, _, .nil => rfl
  | _, _, 0, .cons h t => h
  | _, _, j + 1, .cons h t => vals_getD j t
theorem vals_lay {v : V} {u : Value} {pl : List (Option Nat)} (h : RelV v u) {vs zs : List V} {us ws : List Value} (r : Vals vs us) (k : Vals zs ws) : Vals (layL .non v pl vs zs) (layL .none u pl us ws) := by
  refine r.append ?_
  induction pl with
  | nil => exact .nil
  | cons o pl ih =>
    cases o with
    | some j => exact .cons (vals_getD j k) ih
    | none => exact .cons h ih
/-- no default is asked for -/
theorem kbp_of (pl : List (Option Nat)) (F : FunD K x qual pa body sc [] kws f fd)
    (h : ∀ (kV doc pm : Value) (an : Option Addr) (cdv ct : Value) (us ws : List Value), us.length = n → ws.length = ks.length → bindArgs (PySem.W.fnOf x qual pa body sc .none kV doc pm an cdv ct) ⟨us, ks.zip ws⟩ = pure (ps.zip (layL .none .none pl us ws))) :
    ∃ g, KBn K fd ps n ks g (layL .non .non pl) := by
  obtain ⟨oc, od, dV, kV, doc, pm, an, cdv, ct, osl, rfl, lk, hcd, hD, hK⟩ := F.ex
  rcases hD with ⟨_, rfl⟩ | ⟨e, _⟩
  · exact ⟨_, fun s us ws _ h1 h2 => .of_eq (h kV doc pm an cdv ct us ws h1 h2), fun r1 r2 => vals_lay (show RelV V.non Value.none from rfl) r1 r2⟩
  · exact absurd rfl e
/-- the one default -/
theorem kbd_of {q : Str} {v : V} (pl : List (Option Nat)) (F : FunD K x qual pa body sc [] [(q, v)] f fd)
    (h : ∀ (D : Addr) (doc pm : Value) (an : Option Addr) (cdv ct u : Value) (us ws : List Value), us.length = n → ws.length = ks.length → KwChain D [(q, u)] (bindArgs (PySem.W.fnOf x qual pa body sc .none (.ref D) doc pm an cdv ct) ⟨us, ks.zip ws⟩) (ps.zip (layL .none u pl us ws))) :
    ∃ g, KBn K fd ps n ks g (layL .non v pl) := by
  obtain ⟨oc, od, dV, kV, doc, pm, an, cdv, ct, osl, rfl, lk, hcd, hD, hK⟩ := F.ex
  rcases hD with ⟨_, rfl⟩ | ⟨e, _⟩
  · rcases hK with e | ⟨D, rfl, hq⟩
    · cases e
    · obtain ⟨u, e1, e2⟩ := hq (q, v) List.mem_cons_self
      refine ⟨layL .none u pl, fun s us ws X l1 l2 => BindsTo.of_looks fun M => KwChain.looks (l := [(q, u)]) X (fun p hp => ?_) (h D doc pm an cdv ct u us ws l1 l2), fun r1 r2 => vals_lay e2 r1 r2⟩
      simp at hp
      subst hp
      exact e1
  · exact absurd rfl e
theorem funD_mk {oc : Value} {od an : Option Addr} {osl : Array (Option Value)} {kV doc pm cdv ct : Value} (l : K.lookup f = some ⟨oc, od, .func (PySem.W.fnOf x qual pa body sc .none kV doc pm an cdv ct), osl⟩)
    (hc : PySem.W.codeIn K cdv qual = true) (k : PySem.W.keepIn K (.ref f) = true) : FunD K x qual pa body sc [] [] f (PySem.W.fnOf x qual pa body sc .none kV doc pm an cdv ct) := ⟨⟨oc, od, .none, kV, doc, pm, an, cdv, ct, osl, rfl, l, hc, .inl ⟨rfl, rfl⟩, .inl rfl⟩, k⟩
theorem funD_mk1 {oc : Value} {od an : Option Addr} {osl : Array (Option Value)} {D : Addr} {doc pm cdv ct : Value} {q : Str} {v : V} {u : Value} (l : K.lookup f = some ⟨oc, od, .func (PySem.W.fnOf x qual pa body sc .none (.ref D) doc pm an cdv ct), osl⟩)
    (hc : PySem.W.codeIn K cdv qual = true) (k : PySem.W.keepIn K (.ref f) = true) (hq : PySem.W.nsIn K D q = some (some u)) (r : RelV v u) : FunD K x qual pa body sc [] [(q, v)] f (PySem.W.fnOf x qual pa body sc .none (.ref D) doc pm an cdv ct) :=
  ⟨⟨oc, od, .none, .ref D, doc, pm, an, cdv, ct, osl, rfl, l, hc, .inl ⟨rfl, rfl⟩, .inr ⟨D, rfl, fun p hp => by
    simp at hp
    subst hp
    exact ⟨u, hq, r⟩⟩⟩, k⟩
/-- the written empty tuple -/
theorem sqT_nil {e : Addr} {od : Option Addr} {n : Nat} {sl : Array (Option Value)} (h : K.lookup e = some ⟨.type "tuple", od, .seq #[] n, sl⟩) (H : Hp) : SqT K H e [] := .inr ⟨_, #[], n, h, rfl, rfl, Nat.zero_le _, .nil⟩
theorem rp_tup0 {cm : Str → Option Addr} {e : Addr} (h : ∀ H, SqT K H e []) (F : Hp) : Rp K cm F (.tup []) (.ref e) := by
  simp only [Rp]
  exact ⟨e, [], rfl, h F, .nil⟩
theorem rp_non {cm : Str → Option Addr} (F : Hp) : Rp K cm F .non .non := by simp only [Rp]
end
section
variable {c : Kc} {W : WX} {X : Cx} {E : XK} {e o : Expr} {es : List Expr} {kws : List Keyword} {x m : Str} {p pos apos : Pos} {k n : Nat} {f C : Addr} {fd : FuncData} {ps ks : List Str} {fn : List SV → Out D} {rr rk : Env → Out (List It)} {ra : Env → Out D} {gD : List It → List It → List It} {gV : List V → List V → List V}
/-- f(e, ..), a default fills up -/
theorem gcallP1 (A : Arr c gD gV) (hb : ∃ g, KBn X.K fd ps n [] g gV) (Fo : FnG X.prog X.w X.K X.mg X.base CX0 k f fd ps (spF c fn)) (hr : Room k X.A) (gd : X.A.guards = some []) (hm : X.mg x = some (.ref f)) (hk : PySem.W.keepIn X.K (.ref f) = true) (hl : LenR rr n)
    (ha : PA X (e :: es) (tR c W rr)) (hW : W = fun _ => E := by rfl) (hg : Gl X x := by rfl) (hdb : (x == ("__debug__" : Str)) = false := by decide) (he : starEach (e :: es) X.env = (false, eval e X.env) :: starEach es X.env := by rfl) (hpl : (backTo pos (starEach es X.env)).any (·.1) = false := by rfl) :
    PE X (.Call (.Name x p) (e :: es) [] pos) (tD c W (callS (fnCall fn) gD rr nilR)) := by
  obtain ⟨g, hb⟩ := hb
  exact dl_call1 (sp := fun vs zs H Q => spF c fn (gV vs zs) H Q E) A (callOk_fnE hW) (runs_fnK Fo hr gd hb pass00) hl hg hm hk ha hdb he hpl
/-- f(e, .., k = v, ..) -/
theorem gcallPK (A : Arr c gD gV) (hb : ∃ g, KBn X.K fd ps n ks g gV) (Fo : FnG X.prog X.w X.K X.mg X.base CX0 k f fd ps (spF c fn)) (hr : Room k X.A) (gd : X.A.guards = some []) (hm : X.mg x = some (.ref f)) (hk : PySem.W.keepIn X.K (.ref f) = true) (hl : LenR rr n) (hlk : LenR rk ks.length)
    (ha : PA X (e :: es) (tR c W rr)) (hkw : PK X kws (tR c W rk)) (hW : W = fun _ => E := by rfl) (hg : Gl X x := by rfl) (hall : (backToKw pos (keywordEach kws X.env)).all (·.1.isSome) = true := by rfl) (hks : (backToKw pos (keywordEach kws X.env)).filterMap (·.1) = ks := by rfl)
    (hdb : (x == ("__debug__" : Str)) = false := by decide) (he : starEach (e :: es) X.env = (false, eval e X.env) :: starEach es X.env := by rfl)
    (hpl : ((backTo pos (starEach (e :: es) X.env)).any (·.1) || (backToKw pos (keywordEach kws X.env)).any (·.1.isNone)) = false := by rfl) :
    PE X (.Call (.Name x p) (e :: es) kws pos) (tD c W (callS (fnCall fn) gD rr rk)) := by
  obtain ⟨g, hb⟩ := hb
  exact dl_callK (sp := fun vs zs H Q => spF c fn (gV vs zs) H Q E) A (callOk_fnE hW) (runs_fnK Fo hr gd hb pass00) hl hlk hg hm hk ha hkw hall hks hdb he hpl
/-- f(k = v, ..) -/
theorem gcallPK0 (A : Arr c gD gV) (hb : ∃ g, KBn X.K fd ps 0 ks g gV) (Fo : FnG X.prog X.w X.K X.mg X.base CX0 k f fd ps (spF c fn)) (hr : Room k X.A) (gd : X.A.guards = some []) (hm : X.mg x = some (.ref f)) (hk : PySem.W.keepIn X.K (.ref f) = true) (hlk : LenR rk ks.length)
    (hkw : PK X kws (tR c W rk)) (hW : W = fun _ => E := by rfl) (hg : Gl X x := by rfl) (hall : (backToKw pos (keywordEach kws X.env)).all (·.1.isSome) = true := by rfl) (hks : (backToKw pos (keywordEach kws X.env)).filterMap (·.1) = ks := by rfl)
    (hdb : (x == ("__debug__" : Str)) = false := by decide) (hpl : ((backTo pos (starEach [] X.env)).any (·.1) || (backToKw pos (keywordEach kws X.env)).any (·.1.isNone)) = false := by rfl) :
    PE X (.Call (.Name x p) [] kws pos) (tD c W (callS (fnCall fn) gD nilR rk)) := by
  obtain ⟨g, hb⟩ := hb
  exact dl_callK0 (sp := fun vs zs H Q => spF c fn (gV vs zs) H Q E) A (callOk_fnE hW) (runs_fnK Fo hr gd hb pass00) hlk hg hm hk hkw hall hks hdb hpl
/-! new instances -/
theorem gmakeP1 {cn : Str} {fi : List SV → Out (List (Str × D))} {gI : List V → List V → List V} (A : Arr c gD gV) (hw : ∀ x vs zs, gI (x :: vs) zs = x :: gV vs zs) (M : Mk X.K C f) (hb : ∃ g, KBn X.K fd ps (n + 1) [] g gI) (Fo : FnG X.prog X.w X.K X.mg X.base CX0 k f fd ps (spI c C fi)) (hr : Room (k + 1) X.A) (gd : X.A.guards = some []) (hC : c.cm cn = some C) (hm : X.mg x = some (.ref C)) (hl : LenR rr n)
    (ha : PA X (e :: es) (tR c W rr)) (hW : W = fun _ => E := by rfl) (hg : Gl X x := by rfl) (hdb : (x == ("__debug__" : Str)) = false := by decide) (he : starEach (e :: es) X.env = (false, eval e X.env) :: starEach es X.env := by rfl) (hpl : (backTo pos (starEach es X.env)).any (·.1) = false := by rfl) :
    PE X (.Call (.Name x p) (e :: es) [] pos) (tD c W (callS (mkCall cn fi) gD rr nilR)) := by
  obtain ⟨g, hb⟩ := hb
  exact dl_call1 (sp := spMake C (spI c C fi) gV E) A (callOk_mkE hW hC) (runs_makeK M Fo hr gd hb hw pass00) hl hg hm M.kp ha hdb he hpl
theorem gmakePK {cn : Str} {fi : List SV → Out (List (Str × D))} {gI : List V → List V → List V} (A : Arr c gD gV) (hw : ∀ x vs zs, gI (x :: vs) zs = x :: gV vs zs) (M : Mk X.K C f) (hb : ∃ g, KBn X.K fd ps (n + 1) ks g gI) (Fo : FnG X.prog X.w X.K X.mg X.base CX0 k f fd ps (spI c C fi)) (hr : Room (k + 1) X.A) (gd : X.A.guards = some []) (hC : c.cm cn = some C) (hm : X.mg x = some (.ref C)) (hl : LenR rr n) (hlk : LenR rk ks.length)
    (ha : PA X (e :: es) (tR c W rr)) (hkw : PK X kws (tR c W rk)) (hW : W = fun _ => E := by rfl) (hg : Gl X x := by rfl) (hall : (backToKw pos (keywordEach kws X.env)).all (·.1.isSome) = true := by rfl) (hks : (backToKw pos (keywordEach kws X.env)).filterMap (·.1) = ks := by rfl)
    (hdb : (x == ("__debug__" : Str)) = false := by decide) (he : starEach (e :: es) X.env = (false, eval e X.env) :: starEach es X.env := by rfl)
    (hpl : ((backTo pos (starEach (e :: es) X.env)).any (·.1) || (backToKw pos (keywordEach kws X.env)).any (·.1.isNone)) = false := by rfl) :
    PE X (.Call (.Name x p) (e :: es) kws pos) (tD c W (callS (mkCall cn fi) gD rr rk)) := by
  obtain ⟨g, hb⟩ := hb
  exact dl_callK (sp := spMake C (spI c C fi) gV E) A (callOk_mkE hW hC) (runs_makeK M Fo hr gd hb hw pass00) hl hlk hg hm M.kp ha hkw hall hks hdb he hpl
theorem gmakePK0 {cn : Str} {fi : List SV → Out (List (Str × D))} {gI : List V → List V → List V} (A : Arr c gD gV) (hw : ∀ x vs zs, gI (x :: vs) zs = x :: gV vs zs) (M : Mk X.K C f) (hb : ∃ g, KBn X.K fd ps 1 ks g gI) (Fo : FnG X.prog X.w X.K X.mg X.base CX0 k f fd ps (spI c C fi)) (hr : Room (k + 1) X.A) (gd : X.A.guards = some []) (hC : c.cm cn = some C) (hm : X.mg x = some (.ref C)) (hlk : LenR rk ks.length)
    (hkw : PK X kws (tR c W rk)) (hW : W = fun _ => E := by rfl) (hg : Gl X x := by rfl) (hall : (backToKw pos (keywordEach kws X.env)).all (·.1.isSome) = true := by rfl) (hks : (backToKw pos (keywordEach kws X.env)).filterMap (·.1) = ks := by rfl)
    (hdb : (x == ("__debug__" : Str)) = false := by decide) (hpl : ((backTo pos (starEach [] X.env)).any (·.1) || (backToKw pos (keywordEach kws X.env)).any (·.1.isNone)) = false := by rfl) :
    PE X (.Call (.Name x p) [] kws pos) (tD c W (callS (mkCall cn fi) gD nilR rk)) := by
  obtain ⟨g, hb⟩ := hb
  exact dl_callK0 (sp := spMake C (spI c C fi) gV E) A (callOk_mkE hW hC) (runs_makeK M Fo hr gd hb hw pass00) hlk hg hm M.kp hkw hall hks hdb hpl

/-! ### o.m(e, .., k = v, ..) -/
def tRunMK (C : Addr) (m : Str) (n j : Nat) (sp : List V → List V → Hp → VK → Prop) (ta : TE) (t tk : TA) : TE := fun σ H Q => ta σ H fun x H1 => ∃ a dx fs, x = .ref a ∧ H1 a = some (.ins C dx fs) ∧ fs.lookup m = none ∧
  t σ H1 fun vs H2 => tk σ H2 fun zs H3 => vs.length = n ∧ zs.length = j ∧ sp (x :: vs) zs H3 Q
theorem pr_methK0 {ta : TE} {tk : TA} {sp : List V → List V → Hp → VK → Prop} {pl : Sem Bool} (he : PE X o ta) (cl : Cls X.K C) (hm : Meth X.K C m f) (R : Runs X (.ref f) 1 ks sp) (hkw : PK X kws tk)
    (hall : (backToKw pos (keywordEach kws X.env)).all (·.1.isSome) = true) (hks : (backToKw pos (keywordEach kws X.env)).filterMap (·.1) = ks)
    (hpl : ((backTo pos (starEach [] X.env)).any (·.1) || (backToKw pos (keywordEach kws X.env)).any (·.1.isNone)) = false)
    (ht : eval (.Call (.Attribute o m apos) [] kws pos) X.env = (do
      let ov ← eval o X.env
      standAt apos.atName
      let (f, first) ← holding [ov] (getMethod ov m pl)
      callWith pos f first (backTo pos (starEach [] X.env)) (backToKw pos (keywordEach kws X.env)))) :
    PE X (.Call (.Attribute o m apos) [] kws pos) (tRunMK C m 0 ks.length sp ta tNil tk) := ⟨fun pins s σ H Q I h => by
  refine PySem.W.methodCall_KW (pl := pl) (thn (he.run pins s σ H _ I h) fun u s1 ⟨xv, H1, I1, rx, a, dx, fs, ex, ea, l, q⟩ => ?_) ht
  subst ex
  obtain rfl : u = Value.ref a := rx
  exact getmeth_ok I1 ea cl hm l (PySem.W.callWith_KW0 (first := [.ref a]) (h₀ := X.base) I1.ok.mod.kin hm.kp hall
    (thn (hkw.run pos pins s1 σ H1 _ I1 q) fun ws s2 ⟨zs, H2, I2, rz, l1, l2, q2⟩ => ⟨I2.kIn, by rw [hks]; exact R.run pins s2 σ H2 Q [.ref a] [.ref a] zs ws I2 (.cons rfl .nil) rz rfl l2 q2⟩) hpl)⟩
def methK (cn m : Str) (fn : List SV → Out D) (gD : List It → List It → List It) (ro : Env → Out D) (ra rk : Env → Out (List It)) (e : Env) : Out D := (ro e).bind fun d e1 => match d with
  | .obj cn' ns l => if cn' = cn ∧ (ns.contains m) = false then (ra e1).bind fun its e2 => (rk e2).bind fun jts e3 => if refsB its e3 = true then fnCall fn (gD (.d (.obj cn' ns l) :: its) jts) e3 else .no else .no
  | _ => .no
theorem methK_read {cn : Str} {H0 F H : Hp} {env : Env} {σ : L2.St} {Q : VK} {j : Nat} (A : Arr c gD gV) (hc : c.cm cn = some C) (hl : LenR rr n) (hlk : LenR rk j)
    (g : c.Good H0 F env σ H) (q : Res c W H0 F env σ (methK cn m fn gD ra rr rk env) fun d _ F' H' => ∀ v, Rp c.K c.cm F' d v → Q v H') :
    tRunMK C m n j (fun vs zs H Q => spF c fn (gV vs zs) H Q (W σ)) (tD c W ra) (tR c W rr) (tR c W rk) σ H Q := by
  refine ⟨H0, F, env, g, ?_⟩
  cases e1 : ra env with
  | no => unfold methK at q; rw [e1] at q; exact q
  | ex x e => unfold methK at q; rw [e1] at q; exact q
  | ok d ev1 =>
    unfold methK at q
    rw [e1] at q
    intro F1 H1 s1 v hv
    have q1 := Res.base s1 q
    simp only [bind_ok] at q1
    cases d with
    | obj cn' ns l =>
      simp only at q1
      split at q1
      · rename_i hh
        obtain ⟨h1, h2⟩ := hh
        subst h1
        have hv0 := hv
        simp only [Rp] at hv
        obtain ⟨a, dx, C', fs, rfl, hC, k1, k2, k3, r⟩ := hv
        rw [hc] at hC; cases hC
        refine ⟨a, dx, fs, rfl, s1.good.le _ _ k1, lookup_none_of (by rw [k3]; exact h2), H0, F1, ev1, s1.good, ?_⟩
        cases e2 : rr ev1 with
        | no => rw [e2] at q1; exact q1
        | ex x e => rw [e2] at q1; exact q1
        | ok its ev2 =>
          rw [e2] at q1
          intro F2 H2 s2 vs hvs
          have q2 := Res.base s2 q1
          simp only [bind_ok] at q2
          refine ⟨H0, F2, ev2, s2.good, ?_⟩
          cases e3 : rk ev2 with
          | no => rw [e3] at q2; exact q2
          | ex x e => rw [e3] at q2; exact q2
          | ok jts ev3 =>
            rw [e3] at q2
            intro F3 H3 s3 zs hzs
            have q3 := Res.base s3 q2
            simp only [bind_ok] at q3
            refine ⟨(its_len hvs).trans (hl _ _ _ e2), (its_len hzs).trans (hlk _ _ _ e3), ?_⟩
            split at q3
            · rename_i hb
              have hi : ItsOk c F3 ev3 σ (.d (.obj cn' ns l) :: its) (.ref a :: vs) := ⟨_, _, rfl, Rp.mono (s2.same.trans s3.same) _ _ hv0, its_mono s3.same s3.le (refsB_of hb) hvs⟩
              exact s3.good.call (A.to _ _ _ _ _ _ _ hi hzs) q3 fun d e F' H' h => h
            · exact q3.elim
      · exact q1.elim
    | _ => exact q1.elim
/-- o.m(k = v, ..) -/
theorem gmethPK0 {cn : Str} {pl : Sem Bool} (A : Arr c gD gV) (hb : ∃ g, KBn X.K fd ps 1 ks g gV) (Fo : FnG X.prog X.w X.K X.mg X.base CX0 k f fd ps (spF c fn)) (hr : Room k X.A) (gd : X.A.guards = some []) (hc : c.cm cn = some C) (cl : Cls X.K C) (hm : Meth X.K C m f) (hlk : LenR rk ks.length) (ho : PE X o (tD c W ra)) (hkw : PK X kws (tR c W rk)) (hW : W = fun _ => E := by rfl)
    (hall : (backToKw pos (keywordEach kws X.env)).all (·.1.isSome) = true := by rfl) (hks : (backToKw pos (keywordEach kws X.env)).filterMap (·.1) = ks := by rfl)
    (hpl : ((backTo pos (starEach [] X.env)).any (·.1) || (backToKw pos (keywordEach kws X.env)).any (·.1.isNone)) = false := by rfl)
    (ht : eval (.Call (.Attribute o m apos) [] kws pos) X.env = (do
      let ov ← eval o X.env
      standAt apos.atName
      let (f, first) ← holding [ov] (getMethod ov m pl)
      callWith pos f first (backTo pos (starEach [] X.env)) (backToKw pos (keywordEach kws X.env))) := by rfl) :
    PE X (.Call (.Attribute o m apos) [] kws pos) (tD c W (methK cn m fn gD ra nilR rk)) := by
  obtain ⟨g, hb⟩ := hb
  have R : Runs X (.ref f) 1 ks fun vs zs H Q => spF c fn (gV vs zs) H Q E := runs_fnK Fo hr gd hb pass00
  refine call_imp (pr_methK0 (pl := pl) ho cl hm R hkw hall hks hpl ht) fun σ H Q H0 F env g q => ?_
  subst hW
  obtain ⟨H0', F', env', g', k⟩ := methK_read (n := 0) (j := ks.length) A hc len_nil hlk g q
  refine ⟨H0', F', env', g', k.mono fun d e1 F1 H1 s1 q1 v hv => ?_⟩
  obtain ⟨a, dx, fs, rfl, h1, h2, H0b, Fb, envb, gb, kb⟩ := q1 v hv
  exact ⟨a, dx, fs, rfl, h1, h2, kb.ret gb [] rfl⟩
end
end DL

/-! ==== DL24 -/
/-! DL24: repr, divmod, zip, lists joined, in an own list, remove, own[k], x = e -/
namespace DL
open PySem PySem.Spec PyProof.Rows L2
theorem vb_repr : bootBuiltins "repr" = some (.builtin "repr") := by decide +kernel
theorem vb_divmod : bootBuiltins "divmod" = some (.builtin "divmod") := by decide +kernel
/-! ### repr of lists and tuples -/
def okRp (d : D) : Bool := d.pure && d.toP.showable && decide (d.toP.depth ≤ 60) && decide (d.toP.shown.length ≤ sizeLine) && (match d with | .tup _ => true | .lst _ => true | .ro _ => true | _ => false)
def reprF (d : D) : Option D := if okRp d = true then some (.str d.toP.shown) else none
def rRepr (K : PySem.W.Frag) : List V → Hp → VK → Prop := fun xs H Q => ∃ (a : Addr) (d : PyData), xs = [.ref a] ∧ Dp K H (.ref a) d ∧ d.showable = true ∧ d.depth ≤ 60 ∧ d.shown.length ≤ sizeLine ∧ Q (.str d.shown) H
theorem dp_nodict {K : PySem.W.Frag} {H : Hp} {v : V} {d : PyData} (h : Dp K H v d) : d.hasDict = false := by
  refine Dp.rec (motive_1 := fun v d _ => d.hasDict = false) (motive_2 := fun vs ds _ => PyData.hasDictAll ds = false) ?_ ?_ ?_ ?_ ?_ ?_ ?_ ?_ h
  · rfl
  · intro b; rfl
  · intro i; rfl
  · intro x; rfl
  · intro a xs ds _ _ ih; simpa [PyData.hasDict] using ih
  · intro a xs ds _ _ ih; simpa [PyData.hasDict] using ih
  · rfl
  · intro v vs d ds _ _ h1 h2; simp [PyData.hasDictAll, h1, h2]
theorem cr_repr {X : Cx} (gd : X.A.guards = some []) (hu : X.A.units + 62 < cLine) : CallR X (.builtin "repr") (rRepr X.K) := by
  intro pins s σ H xs us Q I r h
  obtain ⟨a, d, rfl, hd, hs, hp, hz, q⟩ := h
  obtain ⟨u, rfl, ru⟩ := vals1 r
  obtain rfl : u = Value.ref a := ru
  obtain ⟨as, rd⟩ := Dp.reads I d _ _ hd (show RelV (.ref a) (.ref a) from rfl)
  refine repr_of_reads' rd hs (fun z => by rw [dp_nodict hd] at z; cases z) gd (by omega) (fun _ _ e => e) (fun h' u tk hk => ?_) hz
  exact ⟨.str d.shown, H, I.kept (t' := tk) hk, ⟨u, rfl⟩, q⟩
section
variable {c : Kc} {W : WX} {X : Cx} {E : XK} {a b e o : Expr} {es : List Expr} {pos p apos : Pos} {x : Str} {ra rb rc : Env → Out D}
theorem prim_repr : PrimC c (rRepr c.K) (one reprF) := primC1 fun H0 F H env σ x v d Q g hx e k => by
  unfold reprF at e
  split at e
  · rename_i ok
    cases e
    simp only [okRp, Bool.and_eq_true, decide_eq_true_eq] at ok
    obtain ⟨⟨⟨⟨o1, o2⟩, o3⟩, o4⟩, o5⟩ := ok
    have hd := Rp.dp _ _ o1 (Rp.mono g.le _ _ hx)
    have q := k F H (Step.refl g) (.str x.toP.shown) (by simp [Rp])
    have ref : ∃ a, v = .ref a := by
      cases x with
      | tup l => simp only [Rp] at hx; obtain ⟨a, xs, rfl, _⟩ := hx; exact ⟨a, rfl⟩
      | lst l => simp only [Rp] at hx; obtain ⟨a, xs, rfl, _⟩ := hx; exact ⟨a, rfl⟩
      | ro l => simp only [Rp] at hx; obtain ⟨a, xs, rfl, _⟩ := hx; exact ⟨a, rfl⟩
      | _ => cases o5
    obtain ⟨a, rfl⟩ := ref
    exact ⟨a, _, rfl, hd, o2, o3, o4, q⟩
  · cases e
theorem brepr (gd : X.A.guards = some []) (hu : X.A.units + 62 < cLine) (hK : X.K = c.K := by rfl) : BltOk c X "repr" (one reprF) := ⟨_, cr_repr gd hu, by rw [hK]; exact prim_repr⟩
/-! ### divmod -/
def divF : List D → Option D
  | [.int i, .int j] => if 0 < j ∧ j < 1073741824 then some (.tup [.int (i / j), .int (i % j)]) else none
  | _ => none
theorem prim_div : PrimC c (fun xs H Q => ∃ i j, xs = [.int i, .int j] ∧ CDiv i j ∧ ∀ p, H p = none → Q (.ref p) (upd H p (.tup [.int (i / j), .int (i % j)]))) divF := fun H0 F H env σ ds vs d Q g hv ed k => by
  unfold divF at ed
  split at ed
  · rename_i i j
    split at ed
    · rename_i hj
      cases ed
      simp only [RpL, Rp] at hv
      obtain ⟨v, w, rfl, rfl, v2, w2, rfl, rfl, rfl⟩ := hv
      refine ⟨i, j, rfl, hj, fun p hp => ?_⟩
      have st := g.alloc (o := .tup [.int (i / j), .int (i % j)]) hp
      refine k _ _ st _ ?_
      simp only [Rp]
      exact ⟨p, _, rfl, SqT.of upd_same, RpL.cons (by simp [Rp]) (RpL.cons (by simp [Rp]) RpL.nil)⟩
    · cases ed
  · cases ed
theorem bdivmod : BltOk c X "divmod" divF := ⟨_, call_divmod, prim_div⟩
/-! ### zip -/
theorem walk_zipTD {a b : Addr} {xs ys : List V} {l m : List D} {F : Hp} (r : RpL c.K c.cm F l xs) (r2 : RpL c.K c.cm F m ys) : Walk (RZ.ItzT c.K a b) (zipL l m).length (fun H => SqT c.K H a xs ∧ SqT c.K H b ys) (YD c F (zipL l m)) := by
  have hn : (zipL l m).length = min xs.length ys.length := by simp [zipL, r.len, r2.len]
  rw [hn]
  refine ⟨fun i H hi q => ⟨xs, ys, xs[i]'(by omega), ys[i]'(by omega), q.1, q.2, by simp, by simp⟩, fun H q => ⟨xs, ys, q.1, q.2, by omega⟩, fun i H v H' _ q y => ?_⟩
  obtain ⟨T, u, w, rfl, hT, rfl, f1, f2⟩ := y
  obtain ⟨d, e, r3⟩ := r.get' (f1 xs q.1)
  obtain ⟨d', e', r4⟩ := r2.get' (f2 ys q.2)
  exact ⟨_, zipL_get e e', .inr ⟨T, _, _, rfl, rfl, hT, rfl, RpL.cons r3 (RpL.cons r4 RpL.nil)⟩⟩
def itZA (ra : Env → Out (List D)) (e : Env) : Out (List D) := (ra e).bind fun ds e1 => match ds with
  | [.lst l, .lst m] => .ok (zipL l m) e1
  | [.tup l, .tup m] => .ok (zipL l m) e1
  | _ => .no
theorem dl_itZA {tg e : Expr} {ra : Env → Out (List D)} (h : PI X tg e (RZ.iZipA c.K (tA c W ra))) : PI X tg e (tI c W (itZA ra)) := h.imp fun σ H R ⟨H0, F, env, g, q⟩ => by
  refine ⟨H0, F, env, g, q.seq fun ds e1 F1 H1 s1 q1 vs hv => ?_⟩
  split at q1
  · rename_i l m
    simp only [RpL, Rp] at hv
    obtain ⟨v, w, rfl, ⟨a, xs, rfl, h1, r⟩, v2, w2, rfl, ⟨b, ys, rfl, h2, r2⟩, rfl⟩ := hv
    refine ⟨a, b, xs, ys, rfl, .inl ⟨s1.good.le.seq (SqL.of h1), s1.good.le.seq (SqL.of h2), q1.ret s1.good _ _ ((walk_zip (K := c.K) (a := a) (b := b) (xs := xs) (ys := ys) (n := (zipL l m).length) (by simp [zipL, r.len, r2.len])).mono (fun _ z => z) (fun i H x H' _ _ y => ?_)) fun F2 H2 s2 s3 => ⟨s3.seq (s2.seq (SqL.of h1)), s3.seq (s2.seq (SqL.of h2))⟩⟩⟩
    obtain ⟨T, u, w, rfl, hT, rfl, e1, e2⟩ := y
    obtain ⟨d, e, r3⟩ := r.get' e1
    obtain ⟨d', e', r4⟩ := r2.get' e2
    exact ⟨_, zipL_get e e', .inr ⟨T, _, _, rfl, rfl, hT, rfl, RpL.cons r3 (RpL.cons r4 RpL.nil)⟩⟩
  · rename_i l m
    simp only [RpL, Rp] at hv
    obtain ⟨v, w, rfl, ⟨a, xs, rfl, h1, r⟩, v2, w2, rfl, ⟨b, ys, rfl, h2, r2⟩, rfl⟩ := hv
    exact ⟨a, b, xs, ys, rfl, .inr ⟨same_T s1.good.le h1, same_T s1.good.le h2, q1.ret s1.good _ _ (walk_zipTD r r2) fun F2 H2 s2 s3 => ⟨same_T s3 (same_T s2 h1), same_T s3 (same_T s2 h2)⟩⟩⟩
  · exact q1.elim
theorem izip {tpos : Pos} {elts : List Expr} {kk : Nat} (hm : X.mg "zip" = none) (h : PE X a (tD c W ra)) (h2 : PE X b (tD c W rb)) (hg : Gl X "zip" := by rfl) (hs : starEach [a, b] X.env = (false, eval a X.env) :: starEach [b] X.env := by rfl) (hs2 : starEach [b] X.env = [(false, eval b X.env)] := by rfl)
    (hpl : (backTo pos (starEach [b] X.env)).any (·.1) = false := by rfl) (hK : X.K = c.K := by rfl) : PI X (.Tuple elts kk tpos) (.Call (.Name "zip" p) [a, b] [] pos) (tI c W (itZA (consA ra (consA rb nilA)))) :=
  dl_itZA (by rw [← hK]; exact RZ.pi_zipA hg hm (gA1 h (gA1 h2 gA0 hs2) hs) hs hpl)
/-! ### xs + ys as a new list -/
def catF (ra rb : Env → Out D) (e : Env) : Out (List D) := (ra e).bind fun x e1 => (rb e1).bind fun y e2 => match x, y with
  | .lst l, .lst m => if l.length + m.length ≤ sizeLine then .ok (l ++ m) e2 else .no
  | _, _ => .no
theorem dl_cat {e : Expr} (h : PE X e (tOp rCat (tD c W ra) (tD c W rb))) : PE X e (tF c W (catF ra rb)) := h.imp fun σ H Q ⟨H0, F, env, g, q⟩ =>
  ⟨H0, F, env, g, q.seq fun x e1 F1 H1 s1 q1 v hv => ⟨H0, F1, e1, s1.good, q1.seq fun y e2 F2 H2 s2 q2 u hu => by
    split at q2
    · rename_i l m
      split at q2
      · rename_i hz
        have hv := Rp.mono s2.same _ _ hv
        simp only [Rp] at hv hu
        obtain ⟨a, xs, rfl, h1, r1⟩ := hv
        obtain ⟨b, ys, rfl, h2, r2⟩ := hu
        refine ⟨a, b, xs, ys, rfl, rfl, s2.good.le _ _ h1, s2.good.le _ _ h2, by rw [r1.len, r2.len]; exact hz, fun p hp => ?_⟩
        obtain ⟨g2, ap⟩ := s2.good.lay (o := .lst (xs ++ ys)) hp
        exact q2 F2 _ ⟨Same.refl _, EnvLe.refl _, g2, fun _ _ _ e => e⟩ _ ⟨p, _, rfl, ap, r1.append r2⟩
      · exact q2.elim
    · exact q2.elim⟩⟩
theorem gcat (h1 : PE X a (tD c W ra)) (h2 : PE X b (tD c W rb)) : PE X (.BinOp a .Add b pos) (tF c W (catF ra rb)) := dl_cat (pe_op op_cat h1 h2)
/-! ### x in own -/
def inO (n : Bool) (d : D) (l : List D) : Option Bool := match flatD d, asV l with
  | some v, some vs => if (flatV v && vs.all flatV) = true then some (if n then !inV v vs else inV v vs) else none
  | _, _ => none
def ownIn (n : Bool) (i : Nat) (ra : Env → Out D) (e : Env) : Out D := (ra e).bind fun d e1 => match lstOf e1[i]? with
  | some l => (match inO n d l with
    | some b => .ok (.bl b) e1
    | none => .no)
  | none => (match e1[i]? with
    | some (.dat y) => pur2 (inF n) d y e1
    | _ => .no)
theorem dl_ownIn {e : Expr} {n : Bool} {i : Nat} (h : PE X e (tOp (rInAll c.K n) (tD c W ra) (tVar i))) : PE X e (tD c W (ownIn n i ra)) := h.imp fun σ H Q ⟨H0, F, env, g, q⟩ =>
  ⟨H0, F, env, g, q.seq fun d e1 F1 H1 s1 q1 v hv => by
    split at q1
    · rename_i l el
      obtain ⟨a, xs, ha, hH, r⟩ := own_list s1.good el
      refine ⟨_, ha, ?_⟩
      cases ei : inO n d l with
      | none => rw [ei] at q1; exact q1.elim
      | some bb =>
        rw [ei] at q1
        unfold inO at ei
        split at ei
        · rename_i v' vs' e2 e3
          split at ei
          · rename_i hf
            cases ei
            simp only [Bool.and_eq_true] at hf
            have e4 := flatD_eq e2 hv
            have e5 := asV_eq e3 r
            subst e4
            subst e5
            exact .inl ⟨a, _, rfl, .inl (SqL.of hH), hf.1, hf.2, q1.ret s1.good _ (by simp [Rp])⟩
          · cases ei
        · cases ei
    · split at q1
      · rename_i y ey
        obtain ⟨u, hu, ru⟩ := s1.good.slot i _ ey
        exact ⟨u, hu, prim_in W H0 F1 H1 e1 σ d y v u Q s1.good hv ru q1⟩
      · exact q1.elim⟩
theorem goin (i : Nat) (hu : X.A.units + 65 < cLine) (h1 : PE X a (tD c W ra)) (h2 : PE X b (tVar i)) (hm : behindInMarks .In b = false := by first | exact nomark _ | rfl) (hK : X.K = c.K := by rfl) : PE X (.Compare a [.In] [b] pos) (tD c W (ownIn false i ra)) :=
  dl_ownIn (by rw [← hK]; exact pe_cmpR (op_inAll hu) h1 h2 hm)
theorem gonin (i : Nat) (hu : X.A.units + 65 < cLine) (h1 : PE X a (tD c W ra)) (h2 : PE X b (tVar i)) (hm : behindInMarks .NotIn b = false := by first | exact nomark _ | rfl) (hK : X.K = c.K := by rfl) : PE X (.Compare a [.NotIn] [b] pos) (tD c W (ownIn true i ra)) :=
  dl_ownIn (by rw [← hK]; exact pe_cmpR (op_ninAll hu) h1 h2 hm)
/-- as a test -/
theorem ownInT_read {n : Bool} {i : Nat} {σ : L2.St} {H : Hp} {Q : Bool → Hp → Prop} (h : tT c W (valT (ownIn n i ra)) σ H Q) : tTest (tOp (rInAll c.K n) (tD c W ra) (tVar i)) σ H Q := by
  obtain ⟨H0, F, env, g, q⟩ := h
  refine ⟨H0, F, env, g, ?_⟩
  have q : Res c W H0 F env σ ((ra env).bind fun d e1 => (match lstOf e1[i]? with
    | some l => (match inO n d l with
      | some b => Out.ok (D.bl b) e1
      | none => .no)
    | none => (match e1[i]? with
      | some (.dat y) => pur2 (inF n) d y e1
      | _ => .no)).bind blOf) (kT Q) := by
    have e2 : valT (ownIn n i ra) env = _ := rfl
    rw [e2] at q
    unfold valT ownIn at q
    cases er : ra env with
    | no => rw [er] at q; exact q
    | ex x e => rw [er] at q; exact q
    | ok d e1 => rw [er] at q; exact q
  refine q.seq fun d e1 F1 H1 s1 q1 v hv => ?_
  split at q1
  · rename_i l el
    obtain ⟨a, xs, ha, hH, r⟩ := own_list s1.good el
    refine ⟨_, ha, ?_⟩
    cases ei : inO n d l with
    | none => rw [ei] at q1; exact q1.elim
    | some bb =>
      rw [ei] at q1
      unfold inO at ei
      split at ei
      · rename_i v' vs' e2 e3
        split at ei
        · rename_i hf
          cases ei
          simp only [Bool.and_eq_true] at hf
          have e4 := flatD_eq e2 hv
          have e5 := asV_eq e3 r
          subst e4
          subst e5
          exact .inl ⟨a, _, rfl, .inl (SqL.of hH), hf.1, hf.2, _, rfl, q1.ret s1.good⟩
        · cases ei
      · cases ei
  · split at q1
    · rename_i y ey
      obtain ⟨u, hu, ru⟩ := s1.good.slot i _ ey
      refine ⟨u, hu, prim_in W H0 F1 H1 e1 σ d y v u _ s1.good hv ru ?_⟩
      unfold pur2 at q1 ⊢
      cases ei : inF n d y with
      | none => rw [ei] at q1; exact q1.elim
      | some z =>
        rw [ei] at q1
        cases z with
        | bl bb =>
          intro F2 H2 s2 w hw
          simp only [Rp] at hw
          exact ⟨bb, hw, q1 F2 H2 s2⟩
        | _ => exact q1.elim
    · exact q1.elim
theorem goinT (i : Nat) (hu : X.A.units + 65 < cLine) (h1 : PE X a (tD c W ra)) (h2 : PE X b (tVar i)) (hm : behindInMarks .In b = false := by first | exact nomark _ | rfl) (hK : X.K = c.K := by rfl) : PT X (.Compare a [.In] [b] pos) (tT c W (valT (ownIn false i ra))) :=
  (pt_cmpR (op_inAll hu) h1 h2 hm).imp fun σ H Q q => by rw [hK]; exact ownInT_read q
theorem goninT (i : Nat) (hu : X.A.units + 65 < cLine) (h1 : PE X a (tD c W ra)) (h2 : PE X b (tVar i)) (hm : behindInMarks .NotIn b = false := by first | exact nomark _ | rfl) (hK : X.K = c.K := by rfl) : PT X (.Compare a [.NotIn] [b] pos) (tT c W (valT (ownIn true i ra))) :=
  (pt_cmpR (op_ninAll hu) h1 h2 hm).imp fun σ H Q q => by rw [hK]; exact ownInT_read q
/-! ### own.remove(x) -/
def rRemS : V → List V → Hp → VK → Prop := fun x xs H Q => ∃ (l : Addr) (ns : List Str) (k : Str) (j : Nat), x = .ref l ∧ xs = [.str k] ∧ H l = some (.lst (ns.map V.str)) ∧ ns[j]? = some k ∧ (∀ m : Nat, m < j → ns[m]? ≠ some k) ∧ Q .non (upd H l (.lst ((ns.eraseIdx j).map V.str)))
def isStrV (k : Str) : Value → Bool
  | .str a _ => a.cps.toList == k.cps.toList
  | _ => false
theorem map_eraseS : ∀ (l : List Str) (j : Nat), (l.map V.str).eraseIdx j = (l.eraseIdx j).map V.str
  | [], _ => rfl
  | _ :: _, 0 => rfl
  | a :: r, j + 1 => congrArg (V.str a :: ·) (map_eraseS r j)
theorem isStrV_at {k : Str} : ∀ {ns : List Str} {us : List Value}, Vals (ns.map V.str) us → ∀ i (h : i < us.length), isStrV k us[i] = decide (ns[i]? = some k) ∧ ∃ a t, us[i] = .str a t
  | [], _, .nil, i, h => absurd h (by simp)
  | a :: ns, _, .cons ⟨t, e⟩ r, 0, _ => by
    subst e
    refine ⟨?_, a, t, rfl⟩
    show (a.cps.toList == k.cps.toList) = decide (some a = some k)
    by_cases h : a = k
    · subst h; simp
    · have h2 : ¬ a.cps.toList = k.cps.toList := fun z => h (PySem.W.str_of_cps z)
      simp [h]
      exact fun z => h (PySem.W.str_of_cps (by rw [z]))
  | a :: ns, _, .cons _ r, i + 1, h => isStrV_at r i (Nat.lt_of_succ_lt_succ h)
theorem mt_removeS : MtM X "list.remove" rRemS := by
  intro pins s σ H x xs v us Q I rx rxs h
  obtain ⟨l, ns, k, j, rfl, rfl, hH, hj, hno, q⟩ := h
  cases rx
  obtain ⟨u, rfl, ru⟩ := rxs.one
  obtain ⟨t, rfl⟩ := ru
  obtain ⟨z, its, n, r, hl, e⟩ := I.lstM hH
  rw [List.length_map] at hl z
  have hjn : j < ns.length := (List.getElem?_eq_some_iff.mp hj).1
  have hlen : its.length = ns.length := by have := r.length; simpa using this.symm
  have hjl : j < its.toArray.size := by rw [List.size_toArray]; omega
  refine call_meets PySem.F.slot_list_remove ⟨_, e, rfl⟩ PySem.F.entry_list_remove (PySem.F.args_list_remove_2 _ _)
    (MeetsSeq.list_remove l its.toArray n (.str k t) (isStrV k) (fun y hy => ?_) j hjl ?_ ?_ (by rw [List.size_toArray]; omega)) ⟨e, ?_⟩
  · obtain ⟨i, hi, rfl⟩ := List.getElem_of_mem (show y ∈ its by simpa using hy)
    obtain ⟨_, a, t', ea⟩ := isStrV_at (k := k) r i hi
    rw [ea]
    exact SeqRoads2.EqGives.str a k t' t
  · have := (isStrV_at (k := k) r j (by omega)).1
    simp only [List.getElem_toArray]
    rw [this, hj]
    simp
  · intro m hm hmj
    have := (isStrV_at (k := k) r m (by simpa using hm)).1
    simp only [List.getElem_toArray]
    rw [this]
    exact decide_eq_false (hno m hmj)
  · have rr := r.eraseIdx j
    rw [map_eraseS] at rr
    refine ⟨.non, _, I.lset (its' := its.eraseIdx j) (t' := s.toks) hH e ?_ rr ?_, rfl, q⟩
    · show its.toArray.eraseIdxIfInBounds j = (its.eraseIdx j).toArray
      rw [List.eraseIdxIfInBounds_toArray]
    · rw [List.length_map, List.length_eraseIdx]
      split <;> omega
/-- where k stands first -/
def posS (k : Str) : List Str → Option Nat
  | [] => none
  | a :: l => if a = k then some 0 else (posS k l).map (· + 1)
theorem posS_ok {k : Str} : ∀ {l : List Str} {j : Nat}, posS k l = some j → l[j]? = some k ∧ ∀ m : Nat, m < j → l[m]? ≠ some k
  | [], _, h => by cases h
  | a :: l, j, h => by
    unfold posS at h
    split at h
    · rename_i e
      cases h
      exact ⟨by simp [e], fun m hm => by omega⟩
    · rename_i e
      obtain ⟨i, h1, rfl⟩ := Option.map_eq_some_iff.mp h
      obtain ⟨h2, h3⟩ := posS_ok h1
      refine ⟨by simpa using h2, fun m hm => ?_⟩
      cases m with
      | zero => simpa using e
      | succ m => simpa using h3 m (by omega)
theorem rpl_strs {K : PySem.W.Frag} {cm : Str → Option Addr} {F : Hp} : ∀ ns : List Str, RpL K cm F (ns.map D.str) (ns.map V.str)
  | [] => .nil
  | n :: ns => .cons (by simp only [Rp]) (rpl_strs ns)
def remS (i : Nat) (rv : Env → Out D) (e : Env) : Out Fl := match lstOf e[i]? with
  | none => .no
  | some _ => (rv e).bind fun d e2 => match lstOf e2[i]?, d with
    | some l, .str k => (match (asS l).bind fun (ys : List Str) => (posS k ys).map fun j => (ys.eraseIdx j).map D.str with
      | some l' => (match putOv i (.L l') e2 with
        | some e3 => .ok .nx e3
        | none => .no)
      | none => .no)
    | _, _ => .no
theorem dl_rem {st : Stmt} {i : Nat} {rv : Env → Out D} (h : PS X st (tDrop (tBM c.K "list" rRemS (tVar i) (tCons (tD c W rv) tNil)))) : PS X st (tS c W (remS i rv)) := h.imp fun D σ H ⟨H0, F, env, g, q⟩ => by
  unfold remS at q
  split at q
  · exact q.elim
  · rename_i l0 el0
    obtain ⟨a, xs0, ha, hH0, _⟩ := own_list g el0
    refine ⟨_, ha, .inl ⟨rfl, _, .inl (.inl hH0)⟩, H0, F, env, g, q.seqE fun d e2 F2 H2 s2 k2 v hv => ?_⟩
    split at k2
    · rename_i l k el
      split at k2
      · rename_i l' eb
        obtain ⟨ys, e1, e3⟩ := Option.bind_eq_some_iff.mp eb
        obtain ⟨j, e4, rfl⟩ := Option.map_eq_some_iff.mp e3
        split at k2
        · rename_i e5 hp
          obtain ⟨a', xs, ha', hH, r⟩ := own_list s2.good el
          rw [ha] at ha'; cases ha'
          have ex := asS_eq e1 r
          subst ex
          simp only [Rp] at hv
          subst hv
          obtain ⟨p1, p2⟩ := posS_ok e4
          refine ⟨a, ys, k, j, rfl, rfl, hH, p1, p2, ?_⟩
          have st3 := putOv_step (o := .lst ((ys.eraseIdx j).map V.str)) s2.good hp ha ⟨_, upd_same, rpl_strs _⟩
          exact k2 σ F2 _ st3.toS
        · exact k2.elim
      · exact k2.elim
    · exact k2.elim
theorem srem (i : Nat) (h : PE X o (tVar i)) (h2 : PE X e (tD c W ra)) (hs1 : swapsWith (.Call (.Attribute o "remove" apos) [e] [] p) none pos.line X.env = pure false := by rfl) (hbase : attributeBase o "remove" X.env (eval o X.env) = eval o X.env := by rfl)
    (hfew : ((backTo p (starEach [e] X.env)).all (fun x => !x.1) && (backToKw p (keywordEach [] X.env)).all (fun x => x.1.isSome) && decide (([e] : List Expr).length + ([] : List Keyword).length + (if ([] : List Keyword).isEmpty then 0 else 1) < 30)) = true := by rfl)
    (hline : (apos.endLine == p.line) = true := by rfl) (hs : starEach [e] X.env = (false, eval e X.env) :: starEach [] X.env := by rfl) (hplain : (backTo p (starEach [] X.env)).any (·.1) = false := by rfl) (hK : X.K = c.K := by rfl) :
    PS X (.Expr (.Call (.Attribute o "remove" apos) [e] [] p) pos) (tS c W (remS i ra)) :=
  dl_rem (by rw [← hK]; exact ps_expr (pe_bm PySem.F.plainAttrs_list PySem.F.slot_list_remove PySem.F.type_list_remove mt_removeS h (pa_cons h2 pa_nil hs) hbase hfew hline hs hplain) hs1)
/-! ### own[k], x = e -/
def splitS (i j : Nat) (r rk : Env → Out D) (e : Env) : Out Fl := (r e).bind fun d e1 => match d, lstOf e1[i]? with
  | .tup [u, v], some _ => (rk e1).bind fun k e2 => match lstOf e2[i]?, k with
    | some l, .int n => (match ixN l.length n with
      | some m => (match putOv i (.L (l.set m u)) e2 with
        | some e3 => (match setD j v e3 with
          | some e4 => if (keepsB e3 e4 && freeE e4 [j]) = true then .ok .nx e4 else .no
          | none => .no)
        | none => .no)
      | none => .no)
    | _, _ => .no
  | _, _ => .no
theorem dl_split {st : Stmt} {i j : Nat} {rk : Env → Out D} (h : PS X st (tAsg (tD c W ra) (gTup c.K 2 (gCons (gSub (tVar i) (tD c W rk) rSetL) (gCons (gName j) gNil))))) : PS X st (tS c W (splitS i j ra rk)) := h.imp fun D σ H ⟨H0, F, env, g, q⟩ =>
  ⟨H0, F, env, g, q.seqE fun d e F1 H1 st k v hv => by
    split at k
    · rename_i u w l0 el0
      simp only [Rp] at hv
      obtain ⟨t, xs, rfl, ht, rx⟩ := hv
      simp only [RpL] at rx
      obtain ⟨v1, r1, rfl, h1, v2, r2, rfl, h2, rfl⟩ := rx
      obtain ⟨a, xs0, ha, _, _⟩ := own_list st.good el0
      refine ⟨t, _, rfl, same_T st.good.le ht, rfl, v1, _, rfl, _, ha, H0, F1, e, st.good, k.seqE fun kd e2 F2 H2 s2 k2 uu hu => ?_⟩
      split at k2
      · rename_i l n el
        split at k2
        · rename_i m hm
          split at k2
          · rename_i e3 hp
            obtain ⟨a', xs, ha', hH, r⟩ := own_list s2.good el
            rw [ha] at ha'; cases ha'
            simp only [Rp] at hu
            subst hu
            refine ⟨a, xs, n, m, rfl, rfl, hH, by rw [r.len]; exact hm, v2, _, rfl, ?_⟩
            have st3 := putOv_step (o := .lst (xs.set m v1)) s2.good hp ha ⟨_, upd_same, r.set (Rp.mono s2.same _ _ h1)⟩
            split at k2
            · rename_i e4 hd
              split at k2
              · rename_i hk
                obtain ⟨g4, kk⟩ := setD_good st3.good hd (Rp.mono (s2.same.trans st3.same) _ _ h2)
                exact ⟨rfl, k2 _ F2 _ (st3.toS.trans (StepS.ofTarget st3.good g4 hk fun q hq => kk q (by simpa using hq)))⟩
              · exact k2.elim
            · exact k2.elim
          · exact k2.elim
        · exact k2.elim
      · exact k2.elim
    · exact k.elim⟩
theorem ssplit (i j : Nat) {y : Str} {px pt : Pos} {kt : Nat} (hN : X.N.Nodup) (h : PE X o (tVar i)) (hk : PE X b (tD c W rb)) (hv : PE X e (tD c W ra)) (hj : X.N[j]? = some y := by rfl) (hx : Loc X.env.scope y := by first | exact Or.inl rfl | exact Or.inr rfl)
    (hf : X.fn y = true ∨ X.env.scope.names.lookup y = some .local := by first | exact .inl rfl | exact .inr rfl)
    (ha : ∀ v, assign (.Subscript o b p) X.env v = (do
      let ov ← holding [v] (eval o X.env)
      let iv ← holding [v, ov] (eval b X.env)
      standAt p
      holding [v, ov, iv] (setItem ov iv v)
      release [v, ov, iv] []) := by intro _; rfl) (hc : X.calm = true := by rfl)
    (e1 : (assignEach [.Subscript o b p, .Name y px] X.env).map (·.2) = assign (.Subscript o b p) X.env :: (assignEach [.Name y px] X.env).map (·.2) := by rfl) (e2 : (assignEach [.Name y px] X.env).map (·.2) = assign (.Name y px) X.env :: (assignEach [] X.env).map (·.2) := by rfl)
    (hn : (assignEach [.Subscript o b p, .Name y px] X.env).length = 2 := by rfl) (hst : (assignEach [.Subscript o b p, .Name y px] X.env).findIdx? (·.1) = none := by rfl)
    (hs : swapsWithSole [.Tuple [.Subscript o b p, .Name y px] kt pt] e pos.line X.env = pure false := by rfl) (hw : swappedStores [.Tuple [.Subscript o b p, .Name y px] kt pt] e X.env = pure none := by rfl)
    (h1 : (assignEach [.Tuple [.Subscript o b p, .Name y px] kt pt] X.env).map (·.2) = [assign (.Tuple [.Subscript o b p, .Name y px] kt pt) X.env] := by rfl) (hK : X.K = c.K := by rfl) :
    PS X (.Assign [.Tuple [.Subscript o b p, .Name y px] kt pt] e pos) (tS c W (splitS i j ra rb)) :=
  dl_split (by rw [← hK]; exact ps_asg hv (pg_tup hc (pgs_cons (pg_sub h hk set_list ha) (pgs_cons (pg_name hN hj hx hf) pgs_nil e2) e1) hn hst) hs hw h1)
end
end DL

/-! ==== DL25 -/
/-! DL25: dicts with keys that are ints and texts -/
namespace DL
open PySem PySem.Spec PyProof.Rows L2
def keyOf : D → Option Key
  | .int i => some (.inl i)
  | .str s => some (.inr s)
  | _ => none
def getA (k : Key) : List Key → List D → Option D
  | q :: ks, d :: l => if q = k then some d else getA k ks l
  | _, _ => none
def putA (k : Key) (d : D) : List (Key × D) → List (Key × D)
  | [] => [(k, d)]
  | p :: r => if p.1 = k then (p.1, d) :: r else p :: putA k d r
section
variable {c : Kc} {W : WX} {X : Cx} {H0 F F' H H' : Hp} {env env' : Env} {σ : L2.St} {Q : VK} {E : XK} {a b e o : Expr} {pos p apos : Pos} {x : Str} {ra rb rc : Env → Out D}
theorem keyOf_rp {d : D} {k : Key} {v : V} (h : keyOf d = some k) (r : Rp c.K c.cm F d v) : v = kV k := by
  unfold keyOf at h
  split at h
  · cases h; simp only [Rp] at r; exact r
  · cases h; simp only [Rp] at r; exact r
  · cases h
theorem getA_rp {k : Key} : ∀ {ks : List Key} {l : List D} {xs : List V} {d : D}, RpL c.K c.cm F l xs → getA k ks l = some d → ∃ v, valV (ks.zip xs) k = some v ∧ Rp c.K c.cm F d v
  | [], _, _, _, _, h => by cases h
  | _ :: _, [], _, _, _, h => by cases h
  | q :: ks, d0 :: l, xs, d, r, h => by
    simp only [RpL] at r
    obtain ⟨v, vs, rfl, r1, r2⟩ := r
    unfold getA at h
    split at h
    · rename_i e
      cases h
      exact ⟨v, valV_pos e, r1⟩
    · rename_i e
      obtain ⟨w, h1, h2⟩ := getA_rp r2 h
      exact ⟨w, by rw [List.zip_cons_cons, valV_neg e]; exact h1, h2⟩
theorem getA_none {k : Key} : ∀ {ks : List Key} {l : List D} {xs : List V}, RpL c.K c.cm F l xs → ks.length = l.length → getA k ks l = none → valV (ks.zip xs) k = none
  | [], _, _, _, _, _ => rfl
  | _ :: _, [], _, _, h, _ => by cases h
  | q :: ks, d0 :: l, xs, r, hl, h => by
    simp only [RpL] at r
    obtain ⟨v, vs, rfl, r1, r2⟩ := r
    unfold getA at h
    split at h
    · cases h
    · rename_i e
      rw [List.zip_cons_cons, valV_neg e]
      exact getA_none r2 (by simpa using hl) h
theorem putK_cons {q k : Key} {u v : V} {r : List (Key × V)} (hn : (((q, u) :: r).map (·.1)).Nodup) : putK ((q, u) :: r) k v = if q = k then (q, v) :: r else (q, u) :: putK r k v := by
  by_cases e : q = k
  · rw [if_pos e]
    subst e
    have no : ∀ kv ∈ r, ¬ kv.1 = q := fun kv m z => by
      rw [List.map_cons] at hn
      exact (List.nodup_cons.mp hn).1 (List.mem_map.mpr ⟨kv, m, z⟩)
    unfold putK
    rw [if_pos (by simp)]
    simp only [List.map_cons, if_pos]
    refine congrArg ((q, v) :: ·) ?_
    refine (List.map_congr_left fun kv m => ?_).trans (List.map_id r)
    rw [if_neg (no kv m)]; rfl
  · rw [if_neg e]
    unfold putK
    by_cases hr : (r.any fun kv => decide (kv.1 = k)) = true
    · rw [if_pos (by simp [hr]), if_pos hr]
      simp [e]
    · rw [if_neg (by simpa [e] using hr), if_neg hr]
      rfl
/-- a dict's content: keys unlike each other -/
theorem putA_rp {k : Key} {d : D} {v : V} (hv : Rp c.K c.cm F d v) : ∀ {kd : List (Key × D)} {xs : List V}, (kd.map (·.1)).Nodup → RpL c.K c.cm F (kd.map (·.2)) xs → ∃ ys, putK ((kd.map (·.1)).zip xs) k v = ((putA k d kd).map (·.1)).zip ys ∧ RpL c.K c.cm F ((putA k d kd).map (·.2)) ys
  | [], xs, _, r => by
    simp only [List.map_nil, RpL] at r
    subst r
    exact ⟨[v], rfl, .cons hv .nil⟩
  | (q, d0) :: kd, xs, hn, r => by
    simp only [List.map_cons, RpL] at r
    obtain ⟨u, vs, rfl, r1, r2⟩ := r
    have hl := r2.len
    have hm : ((kd.map (·.1)).zip vs).map (·.1) = kd.map (·.1) := List.map_fst_zip (by simp at hl; simp; omega)
    have hn' : (kd.map (·.1)).Nodup := (List.nodup_cons.mp (by rwa [List.map_cons] at hn)).2
    have e1 : putK (((q, d0) :: kd).map (·.1) |>.zip (u :: vs)) k v = if q = k then (q, v) :: (kd.map (·.1)).zip vs else (q, u) :: putK ((kd.map (·.1)).zip vs) k v := putK_cons (by
      rw [List.map_cons] at hn ⊢
      exact (congrArg (fun z => (q :: z).Nodup) hm).mpr hn)
    rw [e1]
    unfold putA
    by_cases e : q = k
    · rw [if_pos e, if_pos e]
      exact ⟨v :: vs, rfl, .cons hv r2⟩
    · rw [if_neg e, if_neg e]
      obtain ⟨ys, h1, h2⟩ := putA_rp (kd := kd) hv hn' r2
      exact ⟨u :: ys, by rw [h1]; rfl, .cons r1 h2⟩
theorem putA_keys {k : Key} {d : D} : ∀ {kd : List (Key × D)}, (kd.map (·.1)).Nodup → ((putA k d kd).map (·.1)).Nodup ∧ ∀ q, q ∈ (putA k d kd).map (·.1) → q ∈ kd.map (·.1) ∨ q = k
  | [], _ => ⟨by simp [putA], fun q m => by simp [putA] at m; exact .inr m⟩
  | (q, d0) :: kd, hn => by
    rw [List.map_cons] at hn
    obtain ⟨h1, h2⟩ := List.nodup_cons.mp hn
    obtain ⟨k1, k2⟩ := putA_keys (k := k) (d := d) h2
    unfold putA
    by_cases e : q = k
    · rw [if_pos e]
      exact ⟨hn, fun z m => .inl m⟩
    · rw [if_neg e]
      refine ⟨List.nodup_cons.mpr ⟨fun m => ?_, k1⟩, fun z m => ?_⟩
      · rcases k2 _ m with z | z
        · exact h1 z
        · exact e z
      · rw [List.map_cons] at m
        rcases List.mem_cons.mp m with z | z
        · subst z; exact .inl List.mem_cons_self
        · rcases k2 _ z with z' | z'
          · exact .inl (List.mem_cons_of_mem _ z')
          · exact .inr z'
theorem putA_len {k : Key} {d : D} : ∀ kd : List (Key × D), (putA k d kd).length ≤ kd.length + 1
  | [] => by simp [putA]
  | p :: r => by
    unfold putA
    split
    · simp
    · have := putA_len (k := k) (d := d) r
      simp; omega
/-! ### d[k] of data -/
def ixA (x y : D) : Option D := match x with
  | .dK ks l => (keyOf y).bind fun k => getA k ks l
  | x => ixF x y
theorem gixA (hu : X.A.units + 1 < cLine) (h1 : PE X a (tD c W ra)) (h2 : PE X b (tD c W rb)) (hs : PlainIx b := by exact fun _ _ => rfl) (hs2 : NoSl b := by exact fun _ _ => rfl) (hK : X.K = c.K := by rfl) : PE X (.Subscript a b pos) (tD c W (bin2 (pur2 ixA) ra rb)) :=
  ((pe_ix ix_seq h1 h2 hs).or (pe_dget hu h1 h2 hs2)).imp fun σ H Q ⟨H0, F, env, g, q⟩ => by
  cases er : ra env with
  | no => unfold bin2 at q; rw [er] at q; exact q.elim
  | ex x0 e1 =>
    left
    refine ⟨H0, F, env, g, ?_⟩
    unfold bin2 at q
    rw [er] at q ⊢
    exact q
  | ok x0 e1 =>
    have seq : ∀ z, (∀ ks l, z ≠ D.dK ks l) → ∀ y, ixA z y = ixF z y := fun z hz y => by
      unfold ixA
      split
      · exact absurd rfl (hz _ _)
      · rfl
    by_cases hd : ∃ ks l, x0 = D.dK ks l
    · obtain ⟨ks, l, rfl⟩ := hd
      right
      refine ⟨H0, F, env, g, ?_⟩
      unfold bin2 at q
      rw [er] at q ⊢
      intro F1 H1 s1 v hv
      have q1 := Res.base s1 q
      rw [bind_ok] at q1
      refine ⟨H0, F1, e1, s1.good, q1.seq fun y e2 F2 H2 s2 q2 u hu => ?_⟩
      simp only [Rp] at hv
      obtain ⟨ad, xs, rfl, hF, hl, r⟩ := hv
      unfold pur2 at q2
      cases ei : ixA (.dK ks l) y with
      | none => rw [ei] at q2; exact q2.elim
      | some d =>
        rw [ei] at q2
        unfold ixA at ei
        obtain ⟨k, e3, e4⟩ := Option.bind_eq_some_iff.mp ei
        have := keyOf_rp e3 hu
        subst this
        obtain ⟨w, e5, e6⟩ := getA_rp r e4
        exact ⟨ad, w, rfl, .inl ⟨_, k, .inl (s2.good.le _ _ (s2.same _ _ hF)), rfl, e5.symm⟩, q2.ret s2.good w (Rp.mono s2.same _ _ e6)⟩
    · left
      have hz : ∀ ks l, x0 ≠ D.dK ks l := fun ks l z => hd ⟨ks, l, z⟩
      refine ⟨H0, F, env, g, ?_⟩
      unfold bin2 at q
      rw [er] at q ⊢
      intro F1 H1 s1 v hv
      have q1 := Res.base s1 q
      rw [bind_ok] at q1
      refine ⟨H0, F1, e1, s1.good, q1.seq fun y e2 F2 H2 s2 q2 u hu => ?_⟩
      rw [hK]
      refine prim_ix W H0 F2 H2 e2 σ x0 y v u Q s2.good (Rp.mono s2.same _ _ hv) hu ?_
      have e3 : pur2 ixA x0 y e2 = pur2 ixF x0 y e2 := by unfold pur2; rw [seq x0 hz]
      rw [← e3]
      exact q2
/-! ### own[k], own[k] = v: lists and dicts -/
def ovL : Option SV → Option OV
  | some (.own o) => some o
  | some (.bor o) => some o
  | _ => none
theorem own_ov (g : c.Good H0 F env σ H) {i : Nat} {o : OV} (e : ovL env[i]? = some o) : ∃ a, σ[i]? = some (some (.ref a)) ∧ RO c.K c.cm F H a o := by
  unfold ovL at e
  split at e
  · rename_i h; cases e
    obtain ⟨a, h1, h2, h3⟩ := g.slot i _ h
    exact ⟨a, h1, h3⟩
  · rename_i h; cases e
    obtain ⟨a, h1, h2, h3⟩ := g.slot i _ h
    exact ⟨a, h1, h3⟩
  · cases e
def getO (o : OV) (y : D) : Option D := match o with
  | .L l => (match y with | .int n => atI l n | _ => none)
  | .K ks l => (keyOf y).bind fun k => getA k ks l
  | .T _ _ => none
def isL : OV → Bool
  | .L _ => true
  | _ => false
def ownIxA (i : Nat) (rb : Env → Out D) (e : Env) : Out D := match ovL e[i]? with
  | none => (match e[i]? with
    | some (.dat d) => (rb e).bind fun y e1 => pur2 ixA d y e1
    | _ => .no)
  | some o0 => (rb e).bind fun y e1 => match ovL e1[i]? with
    | some o => if isL o = isL o0 then (match getO o y with | some d => .ok d e1 | none => .no) else .no
    | none => .no
theorem gownIxA (i : Nat) (hu : X.A.units + 1 < cLine) (h1 : PE X a (tVar i)) (h2 : PE X b (tD c W rb)) (hs : PlainIx b := by exact fun _ _ => rfl) (hs2 : NoSl b := by exact fun _ _ => rfl) (hK : X.K = c.K := by rfl) : PE X (.Subscript a b pos) (tD c W (ownIxA i rb)) :=
  ((pe_ix ix_seq h1 h2 hs).or (pe_dget hu h1 h2 hs2)).imp fun σ H Q ⟨H0, F, env, g, q⟩ => by
  unfold ownIxA at q
  split at q
  · split at q
    · rename_i d ed
      obtain ⟨u, hu, ru⟩ := g.slot i _ ed
      by_cases hd : ∃ ks l, d = D.dK ks l
      · obtain ⟨ks, l, rfl⟩ := hd
        right
        refine ⟨u, hu, H0, F, env, g, q.seq fun y e1 F1 H1 s1 q1 w hw => ?_⟩
        simp only [Rp] at ru
        obtain ⟨ad, xs, rfl, hF, hl, r⟩ := ru
        unfold pur2 at q1
        cases ei : ixA (.dK ks l) y with
        | none => rw [ei] at q1; exact q1.elim
        | some d =>
          rw [ei] at q1
          unfold ixA at ei
          obtain ⟨k, e3, e4⟩ := Option.bind_eq_some_iff.mp ei
          have := keyOf_rp e3 hw
          subst this
          obtain ⟨z, e5, e6⟩ := getA_rp r e4
          exact ⟨ad, z, rfl, .inl ⟨_, k, .inl (s1.good.le _ _ (s1.same _ _ hF)), rfl, e5.symm⟩, q1.ret s1.good z (Rp.mono s1.same _ _ e6)⟩
      · left
        refine ⟨u, hu, H0, F, env, g, q.seq fun y e1 F1 H1 s1 q1 w hw => ?_⟩
        rw [hK]
        refine prim_ix W H0 F1 H1 e1 σ d y u w Q s1.good (Rp.mono s1.same _ _ ru) hw ?_
        have e3 : ixA d y = ixF d y := by
          unfold ixA
          split
          · exact absurd ⟨_, _, rfl⟩ hd
          · rfl
        unfold pur2 at q1 ⊢
        rw [← e3]
        exact q1
    · exact q.elim
  · rename_i o0 e0
    obtain ⟨ad, ha, _⟩ := own_ov g e0
    cases hl : isL o0 with
    | true =>
      left
      refine ⟨_, ha, H0, F, env, g, q.seq fun y e1 F1 H1 s1 q1 w hw => ?_⟩
      split at q1
      · rename_i o eo
        split at q1
        · rename_i hh
          obtain ⟨a', ha', ro⟩ := own_ov s1.good eo
          rw [ha] at ha'; cases ha'
          cases o with
          | L l =>
            split at q1
            · rename_i d ed
              obtain ⟨xs, hH, r⟩ := ro
              unfold getO at ed
              dsimp only at ed
              split at ed
              · rename_i n
                simp only [Rp] at hw
                subst hw
                obtain ⟨z, h3, h4⟩ := atI_rp r ed
                exact .inl ⟨ad, xs, n, z, rfl, rfl, SqL.of hH, h3, q1.ret s1.good z h4⟩
              · cases ed
            · exact q1.elim
          | K ks l => rw [hl] at hh; cases hh
          | T ks l => rw [hl] at hh; cases hh
        · exact q1.elim
      · exact q1.elim
    | false =>
      right
      refine ⟨_, ha, H0, F, env, g, q.seq fun y e1 F1 H1 s1 q1 w hw => ?_⟩
      split at q1
      · rename_i o eo
        split at q1
        · rename_i hh
          obtain ⟨a', ha', ro⟩ := own_ov s1.good eo
          rw [ha] at ha'; cases ha'
          cases o with
          | L l => rw [hl] at hh; cases hh
          | K ks l =>
            split at q1
            · rename_i d ed
              obtain ⟨xs, hH, hlen, r⟩ := ro
              unfold getO at ed
              obtain ⟨k, e3, e4⟩ := Option.bind_eq_some_iff.mp ed
              have := keyOf_rp e3 hw
              subst this
              obtain ⟨z, e5, e6⟩ := getA_rp r e4
              exact ⟨ad, z, rfl, .inl ⟨_, k, .inl hH, rfl, e5.symm⟩, q1.ret s1.good z e6⟩
            · exact q1.elim
          | T ks l =>
            split at q1
            · rename_i d ed
              cases ed
            · exact q1.elim
        · exact q1.elim
      · exact q1.elim
def putO (o : OV) (y d : D) : Option OV := match o with
  | .L l => (match y with | .int n => (ixN l.length n).map fun j => .L (l.set j d) | _ => none)
  | .K ks l => (keyOf y).bind fun k => if (decide (ks.length < sizeLine) && decide ks.Nodup && decide (ks.length = l.length)) = true then some (.K ((putA k d (ks.zip l)).map (·.1)) ((putA k d (ks.zip l)).map (·.2))) else none
  | .T _ _ => none
def storeA (i : Nat) (rk rv : Env → Out D) (e : Env) : Out Fl := (rv e).bind fun d e1 => match ovL e1[i]? with
  | none => .no
  | some o0 => (rk e1).bind fun y e2 => match ovL e2[i]? with
    | some o => if isL o = isL o0 then (match putO o y d with
      | some o' => (match putOv i o' e2 with
        | some e3 => .ok .nx e3
        | none => .no)
      | none => .no) else .no
    | none => .no
theorem _root_.L2.PS.or {st : Stmt} {t t' : TS} (h : PS X st t) (h' : PS X st t') : PS X st (fun D σ H => t D σ H ∨ t' D σ H) := ⟨fun pins s σ H D I q => q.elim (h.run pins s σ H D I) (h'.run pins s σ H D I)⟩
theorem dl_storeA {st : Stmt} {i : Nat} {rk rv : Env → Out D} (h : PS X st (tAsg (tD c W rv) (gSub (tVar i) (tD c W rk) rSetL))) (h' : PS X st (sDPut (tVar i) (tD c W rk) (tD c W rv))) : PS X st (tS c W (storeA i rk rv)) := (h.or h').imp fun D σ H ⟨H0, F, env, g, q⟩ => by
  cases ev : rv env with
  | no => unfold storeA at q; rw [ev] at q; exact q.elim
  | ex x0 e1 =>
    left
    refine ⟨H0, F, env, g, ?_⟩
    unfold storeA at q
    rw [ev] at q ⊢
    exact fun F1 H1 cl dx s1 hx => q σ F1 H1 cl dx s1.toS hx
  | ok d e1 =>
    unfold storeA at q
    rw [ev, bind_ok] at q
    cases e0 : ovL e1[i]? with
    | none => rw [e0] at q; exact q.elim
    | some o0 =>
      rw [e0] at q
      dsimp only at q
      cases hl : isL o0 with
      | true =>
        left
        refine ⟨H0, F, env, g, ?_⟩
        rw [ev]
        intro F1 H1 s1 v hv
        obtain ⟨ad, ha, _⟩ := own_ov s1.good e0
        have q1 := RS.base s1.toS q
        refine ⟨_, ha, H0, F1, e1, s1.good, q1.seqE fun y e2 F2 H2 s2 k2 u hu => ?_⟩
        split at k2
        · rename_i o eo
          split at k2
          · rename_i hh
            obtain ⟨a', ha', ro⟩ := own_ov s2.good eo
            rw [ha] at ha'; cases ha'
            cases o with
            | K ks l => rw [hl] at hh; cases hh
            | T ks l => rw [hl] at hh; cases hh
            | L l =>
              split at k2
              · rename_i o' ep
                split at k2
                · rename_i e3 hp
                  obtain ⟨xs, hH, r⟩ := ro
                  unfold putO at ep
                  dsimp only at ep
                  split at ep
                  · rename_i n
                    obtain ⟨j, ej, rfl⟩ := Option.map_eq_some_iff.mp ep
                    simp only [Rp] at hu
                    subst hu
                    refine ⟨ad, xs, n, j, rfl, rfl, hH, by rw [r.len]; exact ej, ?_⟩
                    have st3 := putOv_step (o := .lst (xs.set j v)) s2.good hp ha ⟨_, upd_same, r.set (Rp.mono s2.same _ _ hv)⟩
                    exact k2 σ F2 _ st3.toS
                  · cases ep
                · exact k2.elim
              · exact k2.elim
          · exact k2.elim
        · exact k2.elim
      | false =>
        right
        refine ⟨H0, F, env, g, ?_⟩
        rw [ev]
        intro F1 H1 s1 v hv
        obtain ⟨ad, ha, _⟩ := own_ov s1.good e0
        have q1 := RS.base s1.toS q
        refine ⟨_, ha, H0, F1, e1, s1.good, q1.seqE fun y e2 F2 H2 s2 k2 u hu => ?_⟩
        split at k2
        · rename_i o eo
          split at k2
          · rename_i hh
            obtain ⟨a', ha', ro⟩ := own_ov s2.good eo
            rw [ha] at ha'; cases ha'
            cases o with
            | L l => rw [hl] at hh; cases hh
            | T ks l =>
              split at k2
              · rename_i o' ep
                cases ep
              · exact k2.elim
            | K ks l =>
              split at k2
              · rename_i o' ep
                split at k2
                · rename_i e3 hp
                  obtain ⟨xs, hH, hlen, r⟩ := ro
                  unfold putO at ep
                  obtain ⟨k, ek, ep⟩ := Option.bind_eq_some_iff.mp ep
                  split at ep
                  · rename_i hz
                    cases ep
                    simp only [Bool.and_eq_true, decide_eq_true_eq] at hz
                    obtain ⟨⟨z1, z2⟩, z3⟩ := hz
                    have := keyOf_rp ek hu
                    subst this
                    have m1 : (ks.zip l).map (·.1) = ks := List.map_fst_zip (by omega)
                    have m2 : (ks.zip l).map (·.2) = l := List.map_snd_zip (by omega)
                    obtain ⟨ys, p1, p2⟩ := putA_rp (k := k) (kd := ks.zip l) (Rp.mono s2.same _ _ hv) (by rw [m1]; exact z2) (by rw [m2]; exact r)
                    rw [m1] at p1
                    have hzl : (ks.zip xs).length < sizeLine := by
                      rw [List.length_zip]
                      exact Nat.lt_of_le_of_lt (Nat.min_le_left _ _) z1
                    refine ⟨ad, upd H2 ad (.dK (putK (ks.zip xs) k v)), rfl, .inl ⟨_, k, hH, rfl, hzl, rfl⟩, ?_⟩
                    have st3 := putOv_step (o := .dK (putK (ks.zip xs) k v)) s2.good hp ha ⟨ys, by rw [← p1]; exact upd_same, by simp, p2⟩
                    exact k2 σ F2 _ st3.toS
                  · cases ep
                · exact k2.elim
              · exact k2.elim
          · exact k2.elim
        · exact k2.elim
theorem sstoreA (i : Nat) (hu : X.A.units + 1 < cLine) (h : PE X o (tVar i)) (hk : PE X b (tD c W rb)) (hv : PE X e (tD c W ra))
    (ha : ∀ v, assign (.Subscript o b p) X.env v = (do
      let ov ← holding [v] (eval o X.env)
      let iv ← holding [v, ov] (eval b X.env)
      standAt p
      holding [v, ov, iv] (setItem ov iv v)
      release [v, ov, iv] []) := by intro _; rfl)
    (hs : swapsWithSole [.Subscript o b p] e pos.line X.env = pure false := by rfl) (hw : swappedStores [.Subscript o b p] e X.env = pure none := by rfl) (h1 : (assignEach [.Subscript o b p] X.env).map (·.2) = [assign (.Subscript o b p) X.env] := by rfl)
    (hs2 : swapsWith e (some (.Subscript o b p)) pos.line X.env = pure false := by rfl) : PS X (.Assign [.Subscript o b p] e pos) (tS c W (storeA i rb ra)) := dl_storeA (ps_asg hv (pg_sub h hk set_list ha) hs hw h1) (ps_dput hu h hk hv hs2)
end
end DL

/-! ==== DL26 -/
/-! DL26: dict comprehensions -/
namespace DL
open PySem PySem.Spec PyProof.Rows L2
def dcL (vs : List Nat) (rg : D → Env → Option Env) (rt : Env → Out Bool) (rk rv : Env → Out D) : List D → List (Key × D) → Env → Out (List (Key × D))
  | [], kd, e => .ok kd e
  | d :: ds, kd, e => match rg d e with
    | none => .no
    | some e2 => if freeE e2 vs = true then (noEx (rt e2)).bind fun b e3 => if b = true then (noEx (rk e3)).bind fun q e4 => (noEx (rv e4)).bind fun y e5 => (match keyOf q with
          | some k => if freeE e5 vs = true then dcL vs rg rt rk rv ds (putA k y kd) (wipeE e5 vs) else .no
          | none => .no)
        else if freeE e3 vs = true then dcL vs rg rt rk rv ds kd (wipeE e3 vs) else .no
      else .no
def dcF (vs : List Nat) (ri : Env → Out (List D)) (rg : D → Env → Option Env) (rt : Env → Out Bool) (rk rv : Env → Out D) (env : Env) : Out OV :=
  (ri env).bind fun ds e1 => if (freeE e1 vs && decide (ds.length ≤ sizeLine)) = true then (noEx (dcL vs rg rt rk rv ds [] (wipeE e1 vs))).bind fun kd e5 => .ok (.K (kd.map (·.1)) (kd.map (·.2))) (backE e1 e5 vs) else .no
/-- a new object taken as data -/
def heldO (rn : Env → Out OV) (e : Env) : Out D := (rn e).bind fun o e1 => .ok o.toD e1
section
variable {c : Kc} {W : WX} {X : Cx} {H0 F F' H H' : Hp} {env env' : Env} {σ : L2.St} {Q : VK} {E : XK} {a b e o : Expr} {pos p apos : Pos} {x : Str} {ra rb rc : Env → Out D}
theorem dc_it {J : L2.It} {n : Nat} {G : Hp → Prop} {Y : Nat → Hp → V → Hp → Prop} (w : Walk J n G Y) {g : TG} {tt : TT} {tk tv : TE} {vs : List Nat} {σ : L2.St} {H1 : Hp} {Dd : Addr} {Qd : Hp → Prop} (Pv : Nat → Hp → Prop) (h0 : Pv 0 (upd H1 Dd (.dK []))) (hG : ∀ i H, i ≤ n → Pv i H → G H)
    (hs : ∀ i x H H', i < n → Pv i H → Y i H x H' → g x (wipe σ vs) H' fun σ2 H2 => wipe σ2 vs = wipe σ vs ∧ tt σ2 H2 fun b H3 =>
      if b = true then tk σ2 H3 fun y H4 => tv σ2 H4 fun z H5 => ∃ kvs k, y = kV k ∧ H5 Dd = some (.dK kvs) ∧ kvs.length < sizeLine ∧ Pv (i + 1) (upd H5 Dd (.dK (putK kvs k z))) else Pv (i + 1) H3) (hd : ∀ H, Pv n H → Qd H) :
    ∃ W : Nat → Nat → Hp → Prop, (∃ m, W 0 m (upd H1 Dd (.dK []))) ∧ ∀ i m H, W i m H →
      (J.stop i H ∧ Qd H) ∨ (J.go i H ∧ ∃ Nx : Hp → Prop, (∀ H', Nx H' → ∃ m', m' < m ∧ W (i + 1) m' H') ∧ ∀ x H', J.yld i H x H' → g x (wipe σ vs) H' fun σ2 H2 => wipe σ2 vs = wipe σ vs ∧ tt σ2 H2 fun b H3 =>
        if b = true then tk σ2 H3 fun y H4 => tv σ2 H4 fun z H5 => ∃ kvs k, y = kV k ∧ H5 Dd = some (.dK kvs) ∧ kvs.length < sizeLine ∧ Nx (upd H5 Dd (.dK (putK kvs k z))) else Nx H3) := by
  refine ⟨fun i m H => i ≤ n ∧ m = n - i ∧ Pv i H, ⟨n, Nat.zero_le _, by simp, h0⟩, ?_⟩
  rintro i m H ⟨hi, rfl, pv⟩
  rcases Nat.lt_or_eq_of_le hi with hlt | rfl
  · exact .inr ⟨w.goes i H hlt (hG i H hi pv), Pv (i + 1), fun H' p' => ⟨n - (i + 1), by omega, hlt, rfl, p'⟩, fun x H' y => hs i x H H' hlt pv (w.yields i H x H' hlt (hG i H hi pv) y)⟩
  · exact .inl ⟨w.stops H (hG i H hi pv), hd H pv⟩
theorem dc_read {vs sl : List Nat} {ri : Env → Out (List D)} {rg : D → Env → Option Env} {rt : Env → Out Bool} {rk rv : Env → Out D} (hsl : ∀ j, j ∈ sl → j ∈ vs) {σ : L2.St} {H : Hp} {Q : VK}
    (h : tNew c W (dcF vs ri rg rt rk rv) σ H Q) : tDc (tI c W ri) (tG c sl rg) (tT c W0 rt) (tD c W0 rk) (tD c W0 rv) vs σ H Q := by
  obtain ⟨H0, F, env, g, q⟩ := h
  refine ⟨H0, F, env, g, q.seq fun ds e1 F1 H1 s1 q1 J G w hG => ?_⟩
  intro Dl hDl
  by_cases hf : (freeE e1 vs && decide (ds.length ≤ sizeLine)) = true
  case neg => rw [if_neg hf] at q1; exact q1.elim
  rw [if_pos hf] at q1
  simp only [Bool.and_eq_true, decide_eq_true_eq] at hf
  obtain ⟨fr, hz⟩ := hf
  -- what is wanted behind the block
  have qb : Res c W0 H0 F1 (wipeE e1 vs) (wipe σ vs) (dcL vs rg rt rk rv ds [] (wipeE e1 vs)) fun kd e5 F' H' => ∀ v, NewO c H0 F' (backE e1 e5 vs) σ H' (.K (kd.map (·.1)) (kd.map (·.2))) v → Q v H' := by
    cases hc : dcL vs rg rt rk rv ds [] (wipeE e1 vs) with
    | no => rw [hc] at q1; exact q1
    | ex x e5 => rw [hc] at q1; exact q1.elim
    | ok ys e5 =>
      rw [hc] at q1
      exact fun F' H' st => q1 F' H' (s1.good.unwiped fr st)
  have gw := s1.good.wiped fr
  obtain ⟨gl, apl⟩ := gw.lay (o := .dK []) hDl
  refine dc_it w (fun i H => ∃ F2 env2 kd xs, Step c H0 F1 (wipeE e1 vs) (wipe σ vs) F2 env2 H ∧ Apart env2 (wipe σ vs) H0 F2 H Dl (.dK ((kd.map (·.1)).zip xs)) ∧ RpL c.K c.cm F2 (kd.map (·.2)) xs ∧ (kd.map (·.1)).Nodup ∧ env2 = wipeE env2 vs ∧ Same F2 H ∧ kd.length ≤ i ∧
      Res c W0 H0 F2 env2 (wipe σ vs) (dcL vs rg rt rk rv (ds.drop i) kd env2) fun ys e5 F' H' => Step c H0 F1 (wipeE e1 vs) (wipe σ vs) F' e5 H' → ∀ v, NewO c H0 F' (backE e1 e5 vs) σ H' (.K (ys.map (·.1)) (ys.map (·.2))) v → Q v H')
    ⟨F1, wipeE e1 vs, [], [], ⟨Same.refl _, EnvLe.refl _, gl, fun _ _ _ e => e⟩, apl, RpL.nil, List.nodup_nil, wipeE_wipeE _ _, gl.le, Nat.le_refl _, qb.mono fun ys e5 F' H' _ k _ => k⟩
    (fun i H _ ⟨F2, env2, accd, xs, st, _, _, _, _, sm, _, _⟩ => hG F2 H st.same sm) ?_ ?_
  · rintro i x H2 H3 hi ⟨F2, env2, kd, xs, st, ap, ra, hnd, he2, sm, hl, qi⟩ y
    obtain ⟨F3, d, hd, s3, rd⟩ := YD.step st.good.rebased st.same y
    have ap3 := ap.after st.good s3
    have s3' := st.good.unbase s3
    have hdrop : ds.drop i = d :: ds.drop (i + 1) := by
      have hi' : i < ds.length := hi
      rw [List.drop_eq_getElem_cons hi']
      rw [List.getElem?_eq_getElem hi'] at hd
      rw [Option.some.inj hd]
    rw [hdrop] at qi
    simp only [dcL] at qi
    refine ⟨H0, F3, env2, d, s3'.good, rd, ?_⟩
    cases hg : rg d env2 with
    | none => rw [hg] at qi; exact qi.elim
    | some e2 =>
      rw [hg] at qi
      dsimp only at qi ⊢
      intro σ2 hl2 g2 kk
      have kv : ∀ j, j ∉ vs → σ2[j]? = (wipe σ vs)[j]? ∧ e2[j]? = env2[j]? := fun j hj => kk j fun z => hj (hsl j z)
      have hw : wipe σ2 vs = wipe σ vs := by rw [wipe_eq hl2 fun j hj => (kv j hj).1, wipe_wipe]
      have hle : e2.length = env2.length := by rw [← g2.len, hl2, s3'.good.len]
      by_cases fr2 : freeE e2 vs = true
      case neg => rw [if_neg fr2] at qi; exact qi.elim
      rw [if_pos fr2] at qi
      have ap2 := ap3.moved fr2 kv
      have g2' : c.Good H0 F3 e2 σ2 H3 := g2
      refine ⟨hw, rebase e2 σ2 H3, F3, e2, g2.rebased, ?_⟩
      cases hrt : rt e2 with
      | no => rw [hrt] at qi; exact qi.elim
      | ex x e => rw [hrt] at qi; exact qi.elim
      | ok b e3 =>
        rw [hrt] at qi
        intro F4 H4 s4
        have ap4 := ap2.after g2' s4
        have s4' := g2'.unbase s4
        have fin : ∀ {e4 : Env} {F5 H5 : Hp} (s5 : Step c H0 F3 e2 σ2 F5 e4 H5) (fr4 : freeE e4 vs = true), Step c H0 F2 env2 (wipe σ vs) F5 (wipeE e4 vs) H5 := fun {e4 F5 H5} s5 fr4 => by
          have := Step.wiped (c := c) (H0 := H0) (F := F2) (e1 := env2) (σ := σ) (vs := vs) (env := env2) (F2 := F3) (H2 := H3) (by rw [← he2]; exact s3') he2 hw hle (fun j hj => (kv j hj).2) s5 fr4
          rwa [← he2] at this
        have offσ : ∀ j, j ∉ vs → (wipe σ vs)[j]? = σ2[j]? := fun j hj => (kv j hj).1.symm
        simp only [noEx, bind_ok] at qi
        show if b = true then _ else _
        cases b with
        | false =>
          rw [if_neg Bool.false_ne_true] at qi ⊢
          by_cases fr3 : freeE e3 vs = true
          case neg => rw [if_neg fr3] at qi; exact qi.elim
          rw [if_pos fr3] at qi
          have s5 := fin s4' fr3
          have ap5 : Apart (wipeE e3 vs) (wipe σ vs) H0 F4 H4 Dl (.dK ((kd.map (·.1)).zip xs)) := ap4.moved (freeE_wipe _ _) fun j hj => ⟨offσ j hj, wipeE_out hj⟩
          exact ⟨F4, wipeE e3 vs, kd, xs, st.trans s5, ap5, RpL.mono s5.same _ _ ra, hnd, wipeE_wipeE _ _, s5.good.le, by omega, Res.base s5 qi⟩
        | true =>
          rw [if_pos rfl] at qi ⊢
          refine ⟨rebase e3 σ2 H4, F4, e3, s4'.good.rebased, ?_⟩
          cases hrk : rk e3 with
          | no => rw [hrk] at qi; exact qi.elim
          | ex x e => rw [hrk] at qi; exact qi.elim
          | ok kq e4 =>
            rw [hrk] at qi
            intro F5 H5 s5 v hv
            have ap5 := ap4.after s4'.good s5
            have s5' := s4'.good.unbase s5
            refine ⟨rebase e4 σ2 H5, F5, e4, s5'.good.rebased, ?_⟩
            simp only [noEx, bind_ok] at qi
            cases hrv : rv e4 with
            | no => rw [hrv] at qi; exact qi.elim
            | ex x e => rw [hrv] at qi; exact qi.elim
            | ok yv e5 =>
              rw [hrv] at qi
              intro F6 H6 s6 z hz'
              have ap6 := ap5.after s5'.good s6
              have s6' := s5'.good.unbase s6
              simp only [noEx, bind_ok] at qi
              cases hk : keyOf kq with
              | none => rw [hk] at qi; exact qi.elim
              | some k =>
                rw [hk] at qi
                dsimp only at qi
                by_cases fr4 : freeE e5 vs = true
                case neg => rw [if_neg fr4] at qi; exact qi.elim
                rw [if_pos fr4] at qi
                have s7 := fin ((s4'.trans s5').trans s6') fr4
                have ap7 : Apart (wipeE e5 vs) (wipe σ vs) H0 F6 H6 Dl (.dK ((kd.map (·.1)).zip xs)) := ap6.moved (freeE_wipe _ _) fun j hj => ⟨offσ j hj, wipeE_out hj⟩
                obtain ⟨ys, p1, p2⟩ := putA_rp (k := k) hz' hnd (RpL.mono s7.same _ _ ra)
                obtain ⟨g8, ap8⟩ := s7.good.changeApart (o' := .dK (putK ((kd.map (·.1)).zip xs) k z)) ap7
                have s8 : Step c H0 F2 env2 (wipe σ vs) F6 (wipeE e5 vs) (upd H6 Dl (.dK (putK ((kd.map (·.1)).zip xs) k z))) := ⟨s7.same, s7.le, g8, s7.old⟩
                refine ⟨_, k, keyOf_rp hk hv, ap7.h, ?_, F6, wipeE e5 vs, putA k yv kd, ys, st.trans s8, by rw [← p1]; exact ap8, p2, (putA_keys hnd).1, wipeE_wipeE _ _, g8.le, Nat.le_trans (putA_len kd) (by omega), ?_⟩
                · rw [List.length_zip, List.length_map]
                  have : i < ds.length := hi
                  have := Nat.min_le_left kd.length xs.length
                  omega
                · exact Res.base s8 (qi.mono fun ys e5 F' H' s9 k s10 => k s10)
  · rintro H2 ⟨F2, env2, kd, xs, st, ap, ra, hnd, he2, sm, hl, qi⟩
    have hdrop : ds.drop ds.length = [] := List.drop_length
    rw [hdrop] at qi
    have := qi.ret st.good st
    refine this _ ⟨Dl, .dK ((kd.map (·.1)).zip xs), rfl, ?_, xs, ap.h, by simp, ra⟩
    refine ⟨ap.f, ap.h, ap.h0, fun i sv e so => ?_⟩
    by_cases hv : i ∈ vs
    · have hi : i < env2.length := by rw [← backE_len e1 env2 vs]; exact (List.getElem?_eq_some_iff.mp e).1
      rw [backE_in hv hi] at e
      have hi1 : i < e1.length := by rw [← wipeE_len e1 vs, ← st.le.len]; exact hi
      have e1' : e1[i]? = some (e1.getD i .un) := by rw [List.getD_eq_getElem?_getD]; simp [hi1]
      rw [Option.some.inj e] at e1'
      have := freeE_at fr hv e1'
      rw [so] at this; cases this
    · rw [backE_out hv] at e
      rw [← wipe_out hv]
      exact ap.no i sv e so
theorem gdc {kx vx tg iter : Expr} {ifs : List Expr} {scope : Scope} {sl : List Nat} {ri : Env → Out (List D)} {rg : D → Env → Option Env} {rt : Env → Out Bool} {rk rv : Env → Out D} (own : List (Str × Nat)) (hN : X.N.Nodup) (hi : PI X tg iter (tI c W ri)) (ok : blkC X.N X.env.scope scope own = true)
    (hg : ∀ (s : Shared) (H : Hp) (C : Addr) (cl : List (Str × Addr)) (fp : List Addr), PG (X.blk s H scope (compEnvC scope cl C X.env) fp) tg (tG c sl rg)) (ht : ∀ (s : Shared) (H : Hp) (C : Addr) (cl : List (Str × Addr)) (fp : List Addr), PTs (X.blk s H scope (compEnvC scope cl C X.env) fp) ifs (tT c W0 rt))
    (hk : ∀ (s : Shared) (H : Hp) (C : Addr) (cl : List (Str × Addr)) (fp : List Addr), PE (X.blk s H scope (compEnvC scope cl C X.env) fp) kx (tD c W0 rk)) (he : ∀ (s : Shared) (H : Hp) (C : Addr) (cl : List (Str × Addr)) (fp : List Addr), PE (X.blk s H scope (compEnvC scope cl C X.env) fp) vx (tD c W0 rv))
    (hsl : ∀ j, j ∈ sl → j ∈ own.map (·.2) := by decide) (hc : X.calm = true := by rfl) (hs : ∀ x, foldedSetIterable iter X.env x = pure x := by intro _; rfl) :
    PE X (.DictComp kx vx [⟨tg, iter, ifs, 0⟩] scope pos) (tNew c W (dcF (own.map (·.2)) ri rg rt rk rv)) := (pe_dc hc hN hi (blkOk_by ok) hg ht hk he hs).imp fun σ H Q q => dc_read hsl q
theorem NewO.hold {o : OV} {v : V} (g : c.Good H0 F env σ H) (n : NewO c H0 F env σ H o v) : ∃ F', Step c H0 F env σ F' env H ∧ Rp c.K c.cm F' o.toD v := by
  obtain ⟨p, ho, rfl, ap, ro⟩ := n
  have st := g.hold ap
  refine ⟨_, st, ?_⟩
  have sm := st.same
  cases o with
  | L l =>
    obtain ⟨xs, h1, r⟩ := ro
    rw [ap.h] at h1; cases h1
    simp only [OV.toD, Rp]
    exact ⟨p, xs, rfl, upd_same, RpL.mono sm _ _ r⟩
  | K ks l =>
    obtain ⟨xs, h1, hl, r⟩ := ro
    rw [ap.h] at h1; cases h1
    simp only [OV.toD, Rp]
    exact ⟨p, xs, rfl, upd_same, hl, RpL.mono sm _ _ r⟩
  | T ks l =>
    obtain ⟨xs, h1, hl, r⟩ := ro
    rw [ap.h] at h1; cases h1
    simp only [OV.toD, Rp]
    exact ⟨p, xs, rfl, upd_same, hl, RpL.mono sm _ _ r⟩
theorem heldO_read {rn : Env → Out OV} {σ : L2.St} {H : Hp} {Q : VK} (h : tD c W (heldO rn) σ H Q) : tNew c W rn σ H Q := by
  obtain ⟨H0, F, env, g, q⟩ := h
  refine ⟨H0, F, env, g, q.seq fun o e1 F1 H1 s1 q1 v n => ?_⟩
  obtain ⟨F2, st, rp⟩ := n.hold s1.good
  exact (Res.base st q1).ret st.good v rp
theorem gheldO {e : Expr} {rn : Env → Out OV} (h : PE X e (tNew c W rn)) : PE X e (tD c W (heldO rn)) := h.imp fun σ H Q q => heldO_read q
theorem ssetOV (i : Nat) {pos' : Pos} {rn : Env → Out OV} (hN : X.N.Nodup) (h : PE X e (tNew c W rn)) (hi : X.N[i]? = some x := by rfl) (hx : Loc X.env.scope x := by first | exact Or.inl rfl | exact Or.inr rfl) (hs : swapsWith e (some (.Name x pos')) pos.line X.env = pure false := by rfl)
    (hf : X.fn x = true ∨ X.env.scope.names.lookup x = some .local := by first | exact .inl rfl | exact .inr rfl) : PS X (.Assign [.Name x pos'] e pos) (tS c W (asgOV i rn)) := dl_asgOV (ps_set hN hi hx h hs hf)
end
end DL

/-! ==== DL27 -/
/-! DL27: a dict whose values are lists that grow: {k: [] for k in web.bells}, then found[one].append(other) -/
namespace DL
open PySem PySem.Spec PyProof.Rows L2
section
variable {X : Cx}
/-- name = {k: v for ..} on one line -/
theorem ps_setDc {i : Nat} {y : Str} {py : Pos} {kx vx tg iter : Expr} {ifs : List Expr} {scope : Scope} {own : List (Str × Nat)} {pos sp : Pos} {wi : TI} {g : TG} {tt : TT} {tk tv : TE} (hc : X.calm = true) (hN : X.N.Nodup) (hy : X.N[i]? = some y) (hyl : X.env.scope.names.lookup y = some .local)
    (hsw : swapsWith (.DictComp kx vx [⟨tg, iter, ifs, 0⟩] scope pos) (some (.Name y py)) sp.line X.env = pure true) (hi : PI X tg iter wi) (ok : BlkOk X.N X.env.scope scope own)
    (hg : ∀ (s : Shared) (H : Hp) (C : Addr) (cl : List (Str × Addr)) (fp : List Addr), PG (X.blk s H scope (compEnvC scope cl C X.env) fp) tg g) (ht : ∀ (s : Shared) (H : Hp) (C : Addr) (cl : List (Str × Addr)) (fp : List Addr), PTs (X.blk s H scope (compEnvC scope cl C X.env) fp) ifs tt)
    (hk : ∀ (s : Shared) (H : Hp) (C : Addr) (cl : List (Str × Addr)) (fp : List Addr), PE (X.blk s H scope (compEnvC scope cl C X.env) fp) kx tk)
    (he : ∀ (s : Shared) (H : Hp) (C : Addr) (cl : List (Str × Addr)) (fp : List Addr), PE (X.blk s H scope (compEnvC scope cl C X.env) fp) vx tv) (hs : ∀ x, foldedSetIterable iter X.env x = pure x := by intro _; rfl) :
    PS X (.Assign [.Name y py] (.DictComp kx vx [⟨tg, iter, ifs, 0⟩] scope pos) sp) (tAsg (tDc wi g tt tk tv (own.map (·.2))) (gName i)) := by
  refine ⟨fun pins s σ H D I h => ?_⟩
  rw [exec_Assign_Name_used _ _ _ _ hsw]
  refine wpAny_bind (wpAny_standAt (wpAny_bind ?_))
  show wpAny _ X.A (do let _ ← comprehension (.DictComp kx vx [⟨tg, iter, ifs, 0⟩] scope pos) scope X.env (firstIterPos [⟨tg, iter, ifs, 0⟩] pos) newDict false (eval iter X.env) (some (assign (.Name y py) X.env))) _ _ s
  have h : tDc wi g tt tk tv (own.map (·.2)) σ H (fun x H1 => gName i x σ H1 D.nx) := h
  refine wpAny_bind (thn (dc_core (Qf := fun _ s' => SP X pins D .next s') hc hN I hi ok hg ht hk he hs h fun L C s' m H' I' q hn f => ?_) fun _ s' hq => wpAny_pure (wpAny_pure hq))
  obtain ⟨f0, f1, f2, f3, f4, f5⟩ := f
  refine wpAny_assign_Name (store_ok2 (v := V.ref L) I' hN hy (.inl hyl) rfl (fun s2 I2 ⟨a, sb, ha⟩ => ?_) (.inr hyl))
  have na : C ≠ a := ha.elim (fun z => z ▸ f1) fun z e => f4 y a z e.symm
  exact ⟨m, hn.sameBut sb na, fun h3 sb3 => ⟨_, H', I2.turned (t' := s2.toks) (fun b o hb e => (sb3.2 b hb).trans e) f0 f1 f3 f4 f5, q⟩⟩
end
section
variable {c : Kc} {W : WX} {X : Cx} {e tg : Expr} {y : Str}
theorem ssetDcO (i : Nat) {py spos pos : Pos} {kx vx iter : Expr} {ifs : List Expr} {scope : Scope} {sl : List Nat} {ri : Env → Out (List D)} {rg : D → Env → Option Env} {rt : Env → Out Bool} {rk rv : Env → Out D} (own : List (Str × Nat)) (hN : X.N.Nodup) (hi : PI X tg iter (tI c W ri)) (ok : blkC X.N X.env.scope scope own = true)
    (hg : ∀ (s : Shared) (H : Hp) (C : Addr) (cl : List (Str × Addr)) (fp : List Addr), PG (X.blk s H scope (compEnvC scope cl C X.env) fp) tg (tG c sl rg)) (ht : ∀ (s : Shared) (H : Hp) (C : Addr) (cl : List (Str × Addr)) (fp : List Addr), PTs (X.blk s H scope (compEnvC scope cl C X.env) fp) ifs (tT c W0 rt))
    (hk : ∀ (s : Shared) (H : Hp) (C : Addr) (cl : List (Str × Addr)) (fp : List Addr), PE (X.blk s H scope (compEnvC scope cl C X.env) fp) kx (tD c W0 rk)) (he : ∀ (s : Shared) (H : Hp) (C : Addr) (cl : List (Str × Addr)) (fp : List Addr), PE (X.blk s H scope (compEnvC scope cl C X.env) fp) vx (tD c W0 rv))
    (hsl : ∀ j, j ∈ sl → j ∈ own.map (·.2) := by decide) (hc : X.calm = true := by rfl) (hs : ∀ x, foldedSetIterable iter X.env x = pure x := by intro _; rfl)
    (hy : X.N[i]? = some y := by rfl) (hyl : X.env.scope.names.lookup y = some .local := by rfl) (hsw : swapsWith (.DictComp kx vx [⟨tg, iter, ifs, 0⟩] scope pos) (some (.Name y py)) spos.line X.env = pure true := by rfl) :
    PS X (.Assign [.Name y py] (.DictComp kx vx [⟨tg, iter, ifs, 0⟩] scope pos) spos) (tS c W (asgOV i (dcF (own.map (·.2)) ri rg rt rk rv))) :=
  dl_asgOV ((ps_setDc hc hN hy hyl hsw hi (blkOk_by ok) hg ht hk he hs).imp fun D σ H q => dc_read hsl q)
theorem ssetDc (i : Nat) {py spos pos : Pos} {kx vx iter : Expr} {ifs : List Expr} {scope : Scope} {sl : List Nat} {ri : Env → Out (List D)} {rg : D → Env → Option Env} {rt : Env → Out Bool} {rk rv : Env → Out D} (own : List (Str × Nat)) (hN : X.N.Nodup) (hi : PI X tg iter (tI c W ri)) (ok : blkC X.N X.env.scope scope own = true)
    (hg : ∀ (s : Shared) (H : Hp) (C : Addr) (cl : List (Str × Addr)) (fp : List Addr), PG (X.blk s H scope (compEnvC scope cl C X.env) fp) tg (tG c sl rg)) (ht : ∀ (s : Shared) (H : Hp) (C : Addr) (cl : List (Str × Addr)) (fp : List Addr), PTs (X.blk s H scope (compEnvC scope cl C X.env) fp) ifs (tT c W0 rt))
    (hk : ∀ (s : Shared) (H : Hp) (C : Addr) (cl : List (Str × Addr)) (fp : List Addr), PE (X.blk s H scope (compEnvC scope cl C X.env) fp) kx (tD c W0 rk)) (he : ∀ (s : Shared) (H : Hp) (C : Addr) (cl : List (Str × Addr)) (fp : List Addr), PE (X.blk s H scope (compEnvC scope cl C X.env) fp) vx (tD c W0 rv))
    (hsl : ∀ j, j ∈ sl → j ∈ own.map (·.2) := by decide) (hc : X.calm = true := by rfl) (hs : ∀ x, foldedSetIterable iter X.env x = pure x := by intro _; rfl)
    (hy : X.N[i]? = some y := by rfl) (hyl : X.env.scope.names.lookup y = some .local := by rfl) (hsw : swapsWith (.DictComp kx vx [⟨tg, iter, ifs, 0⟩] scope pos) (some (.Name y py)) spos.line X.env = pure true := by rfl) :
    PS X (.Assign [.Name y py] (.DictComp kx vx [⟨tg, iter, ifs, 0⟩] scope pos) spos) (tS c W (asgS (heldO (dcF (own.map (·.2)) ri rg rt rk rv)) (setD i) [i])) :=
  dl_asg ((ps_setDc hc hN hy hyl hsw hi (blkOk_by ok) hg ht hk he hs).imp fun D σ H q => dc_read hsl (heldO_read (Q := fun v H1 => gName i v σ H1 D.nx) (by
    obtain ⟨H0, F, env, g, q⟩ := q
    exact ⟨H0, F, env, g, q.mono fun d e F' H' s k v hv => tgn_read (k v hv)⟩)))
end
/-! ### the lists that grow -/
def pairsOf : List D → Option (List (Str × Str))
  | [] => some []
  | .tup [.str a, .str b] :: r => (pairsOf r).map ((a, b) :: ·)
  | _ => none
def keyP (flip : Bool) (p : Str × Str) : Str := if flip then p.2 else p.1
def valP (flip : Bool) (p : Str × Str) : Str := if flip then p.1 else p.2
def wakesL (flip : Bool) (ps : List (Str × Str)) (names : List Str) : List D := names.map fun a => .lst ((ps.filter fun p => decide (keyP flip p = a)).map fun p => .str (valP flip p))
def wakesF (flip : Bool) (svs : List SV) : Out D := match svs with
  | [.dat (.obj cn ns [.tup bs, .tup ws])] => if cn = ("Web" : Str) ∧ ns = [("bells" : Str), ("wakes" : Str)] then (match asS bs, pairsOf ws with
    | some names, some ps => if (decide names.Nodup && decide (names.length ≤ 1000) && decide (ps.length ≤ 1000) && ps.all fun p => decide (keyP flip p ∈ names)) = true then .ok (.dK (names.map .inr) (wakesL flip ps names)) svs else .no
    | _, _ => .no) else .no
  | _ => .no
structure WInv (H1 : Hp) (Dd : Addr) (as : List Addr) (ks : List Str) (ct : List (List V)) (Hh : Hp) : Prop where
  same : Same H1 Hh
  d : Hh Dd = some (.dK ((ks.map Sum.inr).zip (as.map V.ref)))
  nd : H1 Dd = none
  l1 : as.length = ks.length
  l2 : ct.length = ks.length
  ls : ∀ (i : Nat) a x, as[i]? = some a → ct[i]? = some x → Hh a = some (.lst x)
  na : ∀ a ∈ as, H1 a = none
  inj : as.Nodup
theorem valV_none {ks : List Str} {vs : List V} {k : Str} (h : k ∉ ks) : valV ((ks.map (Sum.inr : Str → Key)).zip vs) (.inr k) = none := by
  induction ks generalizing vs with
  | nil => rfl
  | cons a ks ih =>
    cases vs with
    | nil => rfl
    | cons v vs =>
      rw [List.map_cons, List.zip_cons_cons, valV_neg (fun z => h (by injection z with z; rw [← z]; exact List.mem_cons_self))]
      exact ih fun m => h (List.mem_cons_of_mem _ m)
theorem valV_at {ks : List Str} {vs : List V} {k : Str} {j : Nat} {v : V} (hn : ks.Nodup) (hk : ks[j]? = some k) (hv : vs[j]? = some v) : valV ((ks.map (Sum.inr : Str → Key)).zip vs) (.inr k) = some v := by
  induction ks generalizing vs j with
  | nil => simp at hk
  | cons a ks ih =>
    cases vs with
    | nil => simp at hv
    | cons u vs =>
      obtain ⟨n1, n2⟩ := List.nodup_cons.mp hn
      cases j with
      | zero =>
        simp at hk hv
        subst hk; subst hv
        exact valV_pos rfl
      | succ j =>
        simp at hk hv
        rw [List.map_cons, List.zip_cons_cons, valV_neg (fun z => n1 (by injection z with z; rw [z]; exact List.mem_of_getElem? hk))]
        exact ih n2 hk hv
theorem WInv.more {H1 Hh : Hp} {Dd p : Addr} {as : List Addr} {ks : List Str} {ct : List (List V)} {k : Str} (w : WInv H1 Dd as ks ct Hh) (hp : Hh p = none) (hk : k ∉ ks) :
    WInv H1 Dd (as ++ [p]) (ks ++ [k]) (ct ++ [[]]) (upd (upd Hh p (.lst [])) Dd (.dK (putK ((ks.map Sum.inr).zip (as.map V.ref)) (.inr k) (.ref p)))) := by
  have pD : p ≠ Dd := fun z => by subst z; rw [w.d] at hp; cases hp
  have look : ∀ (i : Nat) a, as[i]? = some a → a ≠ p ∧ a ≠ Dd := fun i a ha => by
    have hi : i < ct.length := by rw [w.l2, ← w.l1]; exact (List.getElem?_eq_some_iff.mp ha).1
    have := w.ls i a ct[i] ha (by simp [hi])
    refine ⟨fun z => ?_, fun z => ?_⟩
    · rw [z, hp] at this; cases this
    · rw [z, w.d] at this; cases this
  have h1p : H1 p = none := Same.free w.same hp
  refine ⟨fun a o e => ?_, ?_, w.nd, by simp [w.l1], by simp [w.l2], fun i a x ha hx => ?_, fun a m => ?_, ?_⟩
  · rw [upd_ne (fun z => by subst z; rw [w.nd] at e; cases e), upd_ne (fun z => by subst z; rw [h1p] at e; cases e)]
    exact w.same a o e
  · rw [upd_same, putK_new _ (valV_none hk)]
    congr 2
    rw [List.map_append, List.map_append, List.zip_append (by simp [w.l1])]
    rfl
  · by_cases hi : i < as.length
    · rw [List.getElem?_append_left hi] at ha
      rw [List.getElem?_append_left (by rw [w.l2, ← w.l1]; exact hi)] at hx
      obtain ⟨n1, n2⟩ := look i a ha
      rw [upd_ne n2, upd_ne n1]
      exact w.ls i a x ha hx
    · rw [List.getElem?_append_right (by omega)] at ha
      rw [List.getElem?_append_right (by rw [w.l2, ← w.l1]; omega)] at hx
      have e0 : i - as.length = 0 := by have := (List.getElem?_eq_some_iff.mp ha).1; simp at this; omega
      have e1 : i - ct.length = 0 := by rw [w.l2, ← w.l1]; exact e0
      rw [e0] at ha; rw [e1] at hx
      simp at ha hx
      subst ha; subst hx
      rw [upd_ne pD, upd_same]
  · rcases List.mem_append.mp m with m | m
    · exact w.na a m
    · rw [List.mem_singleton.mp m]; exact h1p
  · refine List.nodup_append.mpr ⟨w.inj, by simp, fun a ma b mb => ?_⟩
    rw [List.mem_singleton.mp mb]
    obtain ⟨i, hi⟩ := List.getElem?_of_mem ma
    exact (look i a hi).1
theorem WInv.app {H1 Hh : Hp} {Dd a : Addr} {as : List Addr} {ks : List Str} {ct : List (List V)} {j : Nat} {x : List V} {v : V} (w : WInv H1 Dd as ks ct Hh) (ha : as[j]? = some a) (hx : ct[j]? = some x) :
    WInv H1 Dd as ks (ct.set j (x ++ [v])) (upd Hh a (.lst (x ++ [v]))) := by
  have hl := w.ls j a x ha hx
  have h1a : H1 a = none := w.na a (List.mem_of_getElem? ha)
  refine ⟨fun b o e => ?_, ?_, w.nd, w.l1, by simp [w.l2], fun i b y hb hy => ?_, w.na, w.inj⟩
  · rw [upd_ne (fun z => by subst z; rw [h1a] at e; cases e)]
    exact w.same b o e
  · rw [upd_ne (fun z => by
      rw [← z] at hl
      have := w.d.symm.trans hl
      cases this)]
    exact w.d
  · by_cases hi : i = j
    · subst hi
      rw [ha] at hb; cases hb
      rw [List.getElem?_set_self (List.getElem?_eq_some_iff.mp hx).1] at hy
      cases hy
      exact upd_same
    · rw [List.getElem?_set_ne (Ne.symm hi)] at hy
      have : b ≠ a := fun z => by
        subst z
        exact hi ((List.getElem?_inj (List.getElem?_eq_some_iff.mp hb).1 w.inj).mp (hb.trans ha.symm))
      rw [upd_ne this]
      exact w.ls i b y hb hy
theorem pairsOf_rp {K : PySem.W.Frag} {cm : Str → Option Addr} {F : Hp} : ∀ {ws : List D} {ps : List (Str × Str)} {vs : List V}, pairsOf ws = some ps → RpL K cm F ws vs → vs.length = ps.length ∧ ∀ (i : Nat) p v, ps[i]? = some p → vs[i]? = some v → ∃ t, v = .ref t ∧ SqT K F t [.str p.1, .str p.2]
  | [], ps, vs, h, r => by
    cases h
    simp only [RpL] at r
    subst r
    exact ⟨rfl, fun i p v e => by simp at e⟩
  | d :: ws, ps, vs, h, r => by
    simp only [RpL] at r
    obtain ⟨v, r', rfl, h1, h2⟩ := r
    unfold pairsOf at h
    split at h
    · rename_i heq; cases heq
    · rename_i a b rr heq
      cases heq
      obtain ⟨q, e1, rfl⟩ := Option.map_eq_some_iff.mp h
      obtain ⟨k1, k2⟩ := pairsOf_rp e1 h2
      refine ⟨by simp [k1], fun i p w hp hw => ?_⟩
      cases i with
      | zero =>
        simp at hp hw
        subst hp; subst hw
        simp only [Rp, RpL] at h1
        obtain ⟨t, xs, rfl, ht, v1, r1, rfl, rfl, v2, r2, rfl, rfl, rfl⟩ := h1
        exact ⟨t, rfl, ht⟩
      | succ i => exact k2 i p w (by simpa using hp) (by simpa using hw)
    · cases h
/-- what such a def's body asks, read off -/
def tWakes (K : PySem.W.Frag) (ka va : Nat) : TS := tSeq (tAsg (tDc (iTup K (tFld K (tVar 0) ("bells" : Str))) (gName 4) tYes (tVar 4) (tLst tNil) [4]) (gName 1))
  (tSeq (tFor (iTup K (tFld K (tVar 0) ("wakes" : Str))) (gTup K 2 (gCons (gName 2) (gCons (gName 3) gNil))) (tSeq (tDrop (tBM K "list" rAppend (tDGet (tVar 1) (tVar ka)) (tCons (tVar va) tNil))) tNext))
    (tSeq (tRet (tVar 1)) tNext))
theorem wakes_read {c : Kc} {K : PySem.W.Frag} {flip : Bool} {ka va : Nat} (hka : ka = if flip then 3 else 2) (hva : va = if flip then 2 else 3) (hK : K = c.K)
    (hcl : ∀ C, c.cm ("Web" : Str) = some C → Cls K C ∧ NoAttr K C ("bells" : Str)) (hcl2 : ∀ C, c.cm ("Web" : Str) = some C → Cls K C ∧ NoAttr K C ("wakes" : Str)) {vs : List V} {H : Hp} {Q : VK} {E : XK} (h : spF c (wakesF flip) vs H Q E) (hl : vs.length = 1) :
    tWakes K ka va { nx := fun _ H' => Q .non H', rt := Q } (vs.map some ++ [none, none, none, none]) H := by
  obtain ⟨F, svs, g, no, h⟩ := h
  match vs, hl with
  | [v], _ =>
    unfold wakesF at h
    split at h
    · exact h.elim
    · rename_i d svs' hf
      split at hf
      · rename_i cn ns bs ws
        split at hf
        · rename_i hcn
          obtain ⟨rfl, rfl⟩ := hcn
          split at hf
          · rename_i names ps e1 e2
            split at hf
            · rename_i hh
              cases hf
              simp only [Bool.and_eq_true, decide_eq_true_eq, List.all_eq_true] at hh
              obtain ⟨⟨⟨h1, h2⟩, h3⟩, h4⟩ := hh
              obtain ⟨u, hu, ru⟩ := g.slot 0 _ rfl
              simp at hu
              subst hu
              have ru0 := ru
              simp only [Rp, RpL] at ru
              obtain ⟨a, dx, C, fs, rfl, hC, k1, k2, k3, v1, r1, e3, ⟨tb, bx, rfl, hb, rb⟩, v2, r2, rfl, ⟨tw, wx, rfl, hw, rw_⟩, rfl⟩ := ru
              have bx_eq := asS_eq e1 rb
              subst bx_eq
              obtain ⟨w1, w2⟩ := pairsOf_rp e2 rw_
              have fl : fs = [(("bells" : Str), .ref tb), (("wakes" : Str), .ref tw)] := by
                match fs, k3, e3 with
                | [(n1, x1), (n2, x2)], k3, e3 =>
                  simp at k3 e3
                  obtain ⟨rfl, rfl⟩ := k3
                  obtain ⟨rfl, rfl⟩ := e3
                  rfl
              subst fl
              have nn : (names.map V.str).length = names.length := by simp
              have Ha : H a = some (.ins C dx [(("bells" : Str), .ref tb), (("wakes" : Str), .ref tw)]) := g.le _ _ k1
              have Hb : SqT K H tb (names.map V.str) := by rw [hK]; exact same_T g.le hb
              have Hw : SqT K H tw wx := by rw [hK]; exact same_T g.le hw
              refine ⟨_, rfl, a, C, dx, _, .ref tb, rfl, Ha, (hcl C hC).1, (hcl C hC).2, rfl, tb, rfl, ⟨_, Hb⟩, fun Dd hDd => ?_⟩
              refine dc_tup (xs := names.map V.str) (fun i Hh => ∃ as, WInv H Dd as (names.take i) ((names.take i).map fun _ => []) Hh) ?_ (fun i Hh _ ⟨as, w⟩ => same_T w.same Hb) ?_ ?_
              · refine ⟨[], fun b o e => by rw [upd_ne (fun z => by subst z; rw [hDd] at e; cases e)]; exact e, upd_same, hDd, rfl, rfl, fun i a x ha => by simp at ha, fun a m => by simp at m, List.nodup_nil⟩
              · rintro i x Hh hx ⟨as, w⟩
                rw [List.getElem?_map] at hx
                obtain ⟨k, hk, rfl⟩ := Option.map_eq_some_iff.mp hx
                have hi : i < names.length := (List.getElem?_eq_some_iff.mp hk).1
                have ht : names.take (i + 1) = names.take i ++ [k] := by
                  rw [List.take_add_one, hk]; rfl
                have kn : k ∉ names.take i := fun m => by
                  have := List.nodup_append.mp (ht ▸ (h1.sublist (List.take_sublist (i + 1) names)))
                  exact this.2.2 k m k (by simp) rfl
                refine ⟨rfl, ?_⟩
                delta tYes
                dsimp only
                rw [if_pos rfl]
                refine ⟨.str k, rfl, ?_⟩
                refine ⟨Nat.zero_le _, fun p hp => ⟨((names.take i).map Sum.inr).zip (as.map V.ref), Sum.inr k, rfl, ?_, ?_, as ++ [p], ?_⟩⟩
                · rw [upd_ne (fun z => by subst z; rw [w.d] at hp; cases hp)]
                  exact w.d
                · rw [List.length_zip]
                  have := Nat.min_le_left ((names.take i).map (Sum.inr : Str → Key)).length (as.map V.ref).length
                  have e9 : ((names.take i).map (Sum.inr : Str → Key)).length ≤ 1000 := by rw [List.length_map, List.length_take]; omega
                  have : 1000 < sizeLine := by decide
                  omega
                · rw [ht, List.map_append]
                  exact w.more hp kn
              · rintro Hh ⟨as, w⟩
                rw [nn, List.take_length] at w
                have Ha2 := w.same _ _ Ha
                have Hw2 : SqT K Hh tw wx := same_T w.same Hw
                refine ⟨_, rfl, a, C, dx, _, .ref tw, rfl, Ha2, (hcl2 C hC).1, (hcl2 C hC).2, rfl, tw, rfl, ⟨_, Hw2⟩, ?_⟩
                refine for_tup (xs := wx) (fun i σ Hh' => (∃ s2 s3, σ = [some (.ref a), some (.ref Dd), s2, s3, none]) ∧ WInv H Dd as names (names.map fun q => ((ps.take i).filter fun p => decide (keyP flip p = q)).map fun p => V.str (valP flip p)) Hh') ?_ (fun i σ Hh' _ q => same_T q.2.same Hw) ?_ ?_
                · exact ⟨⟨none, none, rfl⟩, by simpa using w⟩
                · rintro i x σ' Hh' hx ⟨⟨s2, s3, rfl⟩, w'⟩
                  have hi : i < ps.length := by rw [← w1]; exact (List.getElem?_eq_some_iff.mp hx).1
                  have hp : ps[i]? = some ps[i] := by simp [hi]
                  generalize hpp : ps[i] = p at hp
                  obtain ⟨t, rfl, ht⟩ := w2 i p x hp hx
                  have Ht : SqT K Hh' t [.str p.1, .str p.2] := by rw [hK]; exact same_T w'.same (same_T g.le ht)
                  have mk := h4 p (List.mem_of_getElem? hp)
                  obtain ⟨j, hj⟩ := List.getElem?_of_mem mk
                  have hjn : j < names.length := (List.getElem?_eq_some_iff.mp hj).1
                  have hja : j < as.length := by rw [w'.l1]; exact hjn
                  obtain ⟨aj, haj⟩ : ∃ b, as[j]? = some b := ⟨_, List.getElem?_eq_getElem hja⟩
                  have hct := List.getElem?_map (f := fun q => ((ps.take i).filter fun p => decide (keyP flip p = q)).map fun p => V.str (valP flip p)) (l := names) (i := j)
                  rw [hj] at hct
                  have hcell := w'.ls j aj _ haj hct
                  refine ⟨t, _, rfl, Ht, rfl, .str p.1, _, rfl, .str p.2, _, rfl, rfl, ?_⟩
                  refine ⟨_, rfl, ?_⟩
                  have e8 : ([some (V.ref a), some (V.ref Dd), some (V.str p.1), some (V.str p.2), none] : L2.St)[ka]? = some (some (.str (keyP flip p))) := by
                    subst hka
                    cases flip <;> rfl
                  have e9 : ([some (V.ref a), some (V.ref Dd), some (V.str p.1), some (V.str p.2), none] : L2.St)[va]? = some (some (.str (valP flip p))) := by
                    subst hva
                    cases flip <;> rfl
                  refine ⟨_, e8, Dd, .ref aj, rfl, .inl ⟨_, .inr (keyP flip p), .inl w'.d, rfl, (valV_at h1 hj (by rw [List.getElem?_map, haj]; rfl)).symm⟩, ?_⟩
                  refine ⟨.inl ⟨rfl, _, SqL.of hcell⟩, _, e9, aj, _, _, rfl, rfl, hcell, ?_, ⟨_, _, rfl⟩, ?_⟩
                  · rw [List.length_map]
                    refine Nat.lt_of_le_of_lt (List.length_filter_le _ _) ?_
                    rw [List.length_take]
                    have : 1000 < sizeLine := by decide
                    omega
                  · have hw := w'.app (v := .str (valP flip p)) haj hct
                    refine Eq.mp ?_ hw
                    congr 1
                    have tk : ps.take (i + 1) = ps.take i ++ [p] := by rw [List.take_add_one, hp]; rfl
                    refine List.ext_getElem? fun m => ?_
                    rw [List.getElem?_map]
                    by_cases hm : m = j
                    · subst hm
                      rw [List.getElem?_set_self (by simpa using hjn), hj]
                      simp [tk, List.filter_append]
                    · rw [List.getElem?_set_ne (Ne.symm hm), List.getElem?_map, tk]
                      cases hq : names[m]? with
                      | none => rfl
                      | some q =>
                        have hqk : ¬ keyP flip p = q := fun z => by
                          subst z
                          exact hm ((List.getElem?_inj (List.getElem?_eq_some_iff.mp hq).1 h1).mp (hq.trans hj.symm))
                        simp [List.filter_append, hqk]
                · rintro σ' Hh' ⟨⟨s2, s3, rfl⟩, w'⟩
                  rw [w1, List.take_length] at w'
                  refine ⟨_, rfl, ?_⟩
                  -- all that is new is held for good
                  have cl : ∀ b, (H b = none ∨ F b ≠ none) ∨ True := fun _ => .inr trivial
                  refine h (fun b => open Classical in if H b = none then Hh' b else F b) Hh' ⟨fun b o e => ?_, ⟨fun b o e => ?_, g.len, fun i sv e => ?_, fun i j sv tv b n q1 q2 o1 o2 => ?_, fun b o e _ => w'.same b o e, fun i o b e => ?_⟩, fun b o n e => ?_, rfl, fun i o e => ?_, fun i o e => ?_⟩ (.ref Dd) ?_
                  · rw [if_neg (fun z => by have := g.le _ _ e; rw [z] at this; cases this)]; exact e
                  · split at e
                    · exact e
                    · exact w'.same _ _ (g.le _ _ e)
                  · match i, e with
                    | 0, e =>
                      cases e
                      refine ⟨_, rfl, Rp.mono (F := F) (fun b o e => ?_) _ _ ru0⟩
                      rw [if_neg (fun z => by have := g.le _ _ e; rw [z] at this; cases this)]; exact e
                  · match i, q1 with
                    | 0, q1 => cases q1; cases o1
                  · match i, e with
                    | 0, e => cases e
                  · rw [if_neg n] at e; exact e
                  · match i, e with
                    | 0, e => cases e
                  · match i, e with
                    | 0, e => cases e
                  · simp only [Rp]
                    refine ⟨Dd, as.map V.ref, rfl, ?_, by simp [wakesL], ?_⟩
                    · rw [if_pos w'.nd]; exact w'.d
                    · have gen : ∀ (l : List Str) (bs : List Addr), bs.length = l.length → (∀ (i : Nat) b q, bs[i]? = some b → l[i]? = some q → H b = none ∧ Hh' b = some (.lst ((ps.filter fun p => decide (keyP flip p = q)).map fun p => V.str (valP flip p)))) →
                          RpL c.K c.cm (fun b => open Classical in if H b = none then Hh' b else F b) (wakesL flip ps l) (bs.map V.ref) := fun l => by
                        induction l with
                        | nil =>
                          intro bs hbl _
                          rw [List.length_eq_zero_iff.mp hbl]
                          exact .nil
                        | cons q l ih =>
                          intro bs hbl hh
                          match bs, hbl with
                          | b :: bs, hbl =>
                            obtain ⟨z1, z2⟩ := hh 0 b q rfl rfl
                            refine .cons ?_ (ih bs (by simpa using hbl) fun i b' q' hb' hq' => hh (i + 1) b' q' (by simpa using hb') (by simpa using hq'))
                            simp only [Rp]
                            refine ⟨b, _, rfl, by rw [if_pos z1]; exact z2, ?_⟩
                            have := rpl_strs (K := c.K) (cm := c.cm) (F := fun b => open Classical in if H b = none then Hh' b else F b) ((ps.filter fun p => decide (keyP flip p = q)).map (valP flip))
                            rw [List.map_map, List.map_map] at this
                            exact this
                      refine gen names as w'.l1 fun i b q hb hq => ⟨w'.na b (List.mem_of_getElem? hb), ?_⟩
                      have := w'.ls i b _ hb (by rw [List.getElem?_map, hq]; rfl)
                      exact this
            · cases hf
          · cases hf
        · cases hf
      · cases hf
    · rename_i x svs' hf
      exfalso
      split at hf
      · split at hf
        · split at hf
          · split at hf <;> cases hf
          · cases hf
        · cases hf
      · cases hf
theorem wakesF_len {c : Kc} {flip : Bool} {vs : List V} {H : Hp} {Q : VK} {E : XK} (h : spF c (wakesF flip) vs H Q E) : vs.length = 1 := by
  obtain ⟨F, svs, g, no, h⟩ := h
  have hl := g.len
  unfold wakesF at h
  split at h
  · exact h.elim
  · rename_i d svs' hf
    split at hf
    · simpa using hl
    · cases hf
  · rename_i x svs' hf
    split at hf
    · simpa using hl
    · cases hf
end DL

/-! ==== DL28 -/
/-! DL28: own lists looked at by their names: parts, lengths -/
namespace DL
open PySem PySem.Spec PyProof.Rows L2
section
variable {c : Kc} {W : WX} {X : Cx} {a : Expr} {pos p : Pos} {x : Str} {rl rh : Env → Out (Option Int)}
def ownCut (i : Nat) (rl rh : Env → Out (Option Int)) (e : Env) : Out (List D) := match lstOf e[i]? with
  | none => .no
  | some _ => (rl e).bind fun lo e1 => (rh e1).bind fun hi e2 => match lstOf e2[i]? with
    | some l => .ok (cutL l lo hi) e2
    | none => .no
theorem dl_ownCut {e : Expr} {i : Nat} (h : PE X e (tSl (rSlL c.K) (tVar i) (tO c W rl) (tO c W rh))) : PE X e (tF c W (ownCut i rl rh)) := h.imp fun σ H Q ⟨H0, F, env, g, q⟩ => by
  unfold ownCut at q
  split at q
  · exact q.elim
  · rename_i l0 e0
    obtain ⟨ad, _, ha, _, _⟩ := own_list g e0
    refine ⟨_, ha, H0, F, env, g, q.seq fun lo e1 F1 H1 s1 q1 => ⟨H0, F1, e1, s1.good, q1.seq fun hi e2 F2 H2 s2 q2 => ?_⟩⟩
    split at q2
    · rename_i l el
      obtain ⟨a', xs, ha', hH, r⟩ := own_list s2.good el
      rw [ha] at ha'; cases ha'
      refine ⟨ad, xs, rfl, SqL.of hH, fun p hp => ?_⟩
      obtain ⟨g2, ap⟩ := s2.good.lay (o := .lst (cutV xs lo hi)) hp
      exact q2 F2 _ ⟨Same.refl _, EnvLe.refl _, g2, fun _ _ _ e => e⟩ _ ⟨p, _, rfl, ap, cutL_rp r lo hi⟩
    · exact q2.elim
theorem gownCut (i : Nat) {lo hi : Option Expr} {p2 : Pos} (h : PE X a (tVar i)) (hl : PO X lo (tO c W rl)) (hh : PO X hi (tO c W rh)) (hK : X.K = c.K := by rfl) : PE X (.Subscript a (.Slice lo hi none p2) pos) (tF c W (ownCut i rl rh)) :=
  dl_ownCut (by rw [← hK]; exact pe_slice sl_list h hl hh)
def ownLen (i : Nat) (e : Env) : Out D := match lstOf e[i]? with
  | some l => .ok (.int l.length) e
  | none => (match e[i]? with
    | some (.dat d) => (match lenF d with | some z => .ok z e | none => .no)
    | _ => .no)
theorem gownLen (i : Nat) (hm : X.mg "len" = none) (h : PE X a (tVar i)) (hg : Gl X "len" := by rfl) (he : starEach [a] X.env = (false, eval a X.env) :: starEach [] X.env := by rfl) (hpl : (backTo pos (starEach [] X.env)).any (·.1) = false := by rfl) (hK : X.K = c.K := by rfl) :
    PE X (.Call (.Name "len" p) [a] [] pos) (tD c W (ownLen i)) := (pe_callB cr_len hg hm vb_len (pa_cons h pa_nil he) (by decide) (by decide) he hpl).imp fun σ H Q ⟨H0, F, env, g, q⟩ => by
  unfold ownLen at q
  split at q
  · rename_i l el
    obtain ⟨ad, xs, ha, hH, r⟩ := own_list g el
    refine ⟨_, ha, .inl ⟨ad, xs, rfl, .inl (SqL.of hH), ?_⟩⟩
    exact q.ret g _ (by simp [Rp, r.len])
  · split at q
    · rename_i d ed
      obtain ⟨u, hu, ru⟩ := g.slot i _ ed
      refine ⟨u, hu, ?_⟩
      rw [hK]
      split at q
      · rename_i z ez
        refine prim_len H0 F H env σ [d] [u] z Q g (.cons ru .nil) (show one lenF [d] = some z from ez) fun F' H' st w hw => q F' H' st w hw
      · exact q.elim
    · exact q.elim
end
end DL

/-! ==== DL29 -/
/-! DL29: a tuple so many times; a list taken apart into names -/
namespace DL
open PySem PySem.Spec PyProof.Rows L2
def mulB (x y : D) : Option D := match x, y with
  | .tup l, .int k => if decide (l ≠ [] ∧ 2 ≤ k ∧ k ≤ 1000 ∧ l.length ≤ 1000) = true then some (.tup (List.replicate k.toNat l).flatten) else none
  | x, y => mulA x y
section
variable {c : Kc} {W : WX} {X : Cx} {H0 F F' H H' : Hp} {env env' : Env} {σ : L2.St} {Q : VK} {a b e : Expr} {es : List Expr} {kk : Nat} {pos : Pos} {ra rb : Env → Out D}
theorem prim_mulB : Prim2 c (fun x y H Q => (rI CMulW (fun i j => .int (i * j)) x y H Q ∨ rRep x y H Q) ∨ rRepT c.K x y H Q) (pur2 mulB) := fun W H0 F H env σ x y v u Q g hx hy q => by
  by_cases ht : ∃ l k, x = .tup l ∧ y = .int k
  · obtain ⟨l, k, rfl, rfl⟩ := ht
    right
    unfold pur2 mulB at q
    dsimp only at q
    by_cases hk : decide (l ≠ [] ∧ 2 ≤ k ∧ k ≤ 1000 ∧ l.length ≤ 1000) = true
    · rw [if_pos hk] at q
      obtain ⟨k1, k2, k3, k4⟩ := of_decide_eq_true hk
      simp only [Rp] at hx hy
      obtain ⟨a, xs, rfl, h1, r⟩ := hx
      subst hy
      refine ⟨a, k, xs, rfl, rfl, same_T g.le h1, fun z => k1 ?_, k2, k3, by rw [r.len]; exact k4, fun p hp => ?_⟩
      · have := r.len
        rw [z] at this
        exact List.eq_nil_of_length_eq_zero this.symm
      · have st := g.alloc (o := .tup (List.replicate k.toNat xs).flatten) hp
        refine q _ _ st _ ?_
        simp only [Rp]
        exact ⟨p, _, rfl, SqT.of upd_same, RpL.mono st.same _ _ (rpl_rep r _)⟩
    · rw [if_neg hk] at q
      exact q.elim
  · left
    refine prim_mulA W H0 F H env σ x y v u Q g hx hy ?_
    have e : mulB x y = mulA x y := by
      unfold mulB
      split
      · rename_i l k; exact absurd ⟨l, k, rfl, rfl⟩ ht
      · rfl
    unfold pur2 at q ⊢
    rw [e] at q
    exact q
theorem gmulB (h1 : PE X a (tD c W ra)) (h2 : PE X b (tD c W rb)) (hK : X.K = c.K := by rfl) : PE X (.BinOp a .Mult b pos) (tD c W (bin2 (pur2 mulB) ra rb)) := dl_bin (pe_op (OpR.or op_mulA (by rw [← hK]; exact op_repT)) h1 h2) prim_mulB
theorem tunl {n : Nat} {sl : List Nat} {r : List D → Env → Option Env} (h : PGs X es (tGs c sl r)) (hc : X.calm = true := by rfl) (hn : (assignEach es X.env).length = n := by rfl) (hst : (assignEach es X.env).findIdx? (·.1) = none := by rfl) (hK : X.K = c.K := by rfl) : PG X (.Tuple es kk pos) (tG c sl (setUnl n r)) :=
  dl_tgUnl (by rw [← hK]; exact pg_unl hc h hn hst)
end
end DL

/-! ==== DL30 -/
/-! DL30: a tuple turned about, t[::-1]; no items so many times -/
namespace DL
open PySem PySem.Spec PyProof.Rows L2
open PySem.SeqAt PySem.MeetsSeq PySem.MeetsSeq2 PySem.MeetsSeq3
theorem filt_all {α : Type} : ∀ l : List α, (List.range l.length).filterMap (fun k => l[k]?) = l
  | [] => rfl
  | a :: l => by
    rw [List.length_cons, List.range_succ_eq_map, List.filterMap_cons]
    show a :: ((List.range l.length).map Nat.succ).filterMap _ = _
    rw [List.filterMap_map]
    show a :: (List.range l.length).filterMap (fun k => l[k]?) = _
    rw [filt_all l]
theorem fm_congr {α β : Type} {f g : α → Option β} : ∀ {l : List α}, (∀ a ∈ l, f a = g a) → l.filterMap f = l.filterMap g
  | [], _ => rfl
  | a :: l, h => by
    rw [List.filterMap_cons, List.filterMap_cons, h a List.mem_cons_self, fm_congr fun b m => h b (List.mem_cons_of_mem _ m)]
theorem pick_rev (xs : Array Value) : ((List.range xs.size).filterMap fun (k : Nat) => xs[(((xs.size : Int) - 1) + (k : Int) * (-1)).toNat]?).toArray = xs.toList.reverse.toArray := by
  have e : (List.range xs.size).filterMap (fun (k : Nat) => xs[(((xs.size : Int) - 1) + (k : Int) * (-1)).toNat]?) = (List.range xs.toList.reverse.length).filterMap fun k => xs.toList.reverse[k]? := by
    rw [List.length_reverse, Array.length_toList]
    refine fm_congr fun k hk => ?_
    have hk := List.mem_range.mp hk
    have : (((xs.size : Int) - 1) + (k : Int) * (-1)).toNat = xs.size - 1 - k := by omega
    rw [this, List.getElem?_reverse (by rw [Array.length_toList]; exact hk), Array.length_toList, Array.getElem?_toList]
  rw [e, filt_all]
section
variable {prog : Program} {w : World} {A : Around} {E : Value → Shared → Prop} {s : Shared}
theorem sliceApplied_rev {sl : Addr} {vl vu vs : Value} {n : Nat} {Q : Int × Int × Nat → Shared → Prop} (hs : s.heap.IsSliceOf sl vl vu vs) (pl : IsPart vl none) (pu : IsPart vu none) (ps : IsPart vs (some (-1)))
    (h : Q ((n : Int) - 1, -1, n) s) : wpAny (model prog w) A (Builtin.Slice.sliceApplied (.ref sl) (pure (n : Int))) Q E s := by
  obtain ⟨os, hos, hcs, hds⟩ := id hs
  unfold Builtin.Slice.sliceApplied Builtin.Slice.sliceFields
  refine wpAny_bind (wpAny_bind (wpAny_field hos hds (x := vl) rfl (wpAny_bind (wpAny_field hos hds (x := vu) rfl (wpAny_bind (wpAny_field hos hds (x := vs) rfl (wpAny_pure ?_)))))))
  refine wpAny_bind (HT.slicePart_ ps ?_)
  show wpAny _ _ (if ((-1 : Int) == 0) = true then _ else _) _ _ s
  rw [if_neg (by decide)]
  refine wpAny_bind (HT.slicePart_ pl (wpAny_bind (HT.slicePart_ pu (wpAny_bind (wpAny_pure ?_)))))
  have e : Builtin.Slice.slicePlaces ((n : Int) - 1) (-1) (-1) = n := by
    unfold Builtin.Slice.slicePlaces
    rw [if_neg (by decide)]
    by_cases h : (n : Int) - 1 > -1
    · rw [if_pos h]
      have : ((n : Int) - 1 - -1 - 1) / (- -1) + 1 = n := by
        rw [show (- -1 : Int) = 1 from rfl, Int.ediv_one]
        omega
      rw [this]
      exact Int.toNat_natCast n
    · rw [if_neg h]
      have : n = 0 := by omega
      subst this
      rfl
  show wpAny _ _ (pure ((n : Int) - 1, (-1 : Int), Builtin.Slice.slicePlaces ((n : Int) - 1) (-1) (-1))) _ _ s
  rw [e]
  exact wpAny_pure h
theorem getItem_tuple_rev {t sl : Addr} {items : Array Value} {vl vu vs : Value} {Q : Value → Shared → Prop} (ht : IsTup s.heap t items) (hs : s.heap.IsSliceOf sl vl vu vs) (pl : IsPart vl none) (pu : IsPart vu none) (ps : IsPart vs (some (-1)))
    (h : Q (.ref s.heap.objs.size) { s with heap := s.heap.push { cls := .type "tuple", data := .seq items.toList.reverse.toArray } })
    (hsz : items.size ≤ sizeLine) : wpAny (model prog w) A (getItem (.ref t) (.ref sl)) Q E s := by
  have htake : sizeOk (.seq items.toList.reverse.toArray) := by
    show items.toList.reverse.toArray.size ≤ sizeLine
    rw [List.size_toArray, List.length_reverse, Array.length_toList]
    exact hsz
  obtain ⟨os, hos, hcs, hds⟩ := id hs
  have hTs : s.TypeIs (.ref sl) "slice" := ⟨os, hos, hcs⟩
  unfold getItem
  try with_reducible refine wpAny_holding ?_
  first | refine wpAny_bind (wpAny_pure ?_) | skip
  refine wpAny_bind (wpAny_sequenceKey ht.typeIs (by decide) ?_)
  refine wpAny_bind (wpAny_callSpecial?_slot (name := Str.ofString "__getitem__") ht.typeIs PyProof.Rows.slot_tuple_getitem
    (wpAny_call_entry PyProof.Rows.slot_tuple_getitem ht.typeIs entry_tuple_getitem ?_ (args_tuple_getitem _ _)))
  show wpAny _ _ (Builtin.Tuple.tupleItemsOf (.ref t) >>= _) _ _ s
  refine wpAny_bind (tupleItemsOf_ ht ?_)
  refine wpAny_bind (wpAny_typeOf hTs ?_)
  rw [if_pos (by decide)]
  refine wpAny_bind (sliceApplied_rev hs pl pu ps ?_)
  have hno : ¬ (((items.size : Int) - 1 == 0 && (-1 : Int) == 1 && items.size == items.size) = true) := by
    intro q
    rw [Bool.and_eq_true, Bool.and_eq_true] at q
    exact absurd q.1.2 (by decide)
  show wpAny _ _ (if ((items.size : Int) - 1 == 0 && (-1 : Int) == 1 && items.size == items.size) = true then _ else _) _ _ s
  rw [if_neg hno, pick_rev]
  first
    | exact wpAny_bind (m := Builtin.Tuple.tupleExact _) (wpAny_newObj_type (wpAny_pure ⟨_, rfl, wpAny_pure h⟩) htake)
    | exact wpAny_bind (m := Builtin.Tuple.tupleExact _) (wpAny_newObj_type (wpAny_bind (wpAny_pure (wpAny_pure ⟨_, rfl, wpAny_pure h⟩))) htake)
end
def rRevT (K : PySem.W.Frag) : V → Hp → VK → Prop := fun x H1 Q => ∃ a xs, x = .ref a ∧ SqT K H1 a xs ∧ ∀ p, H1 p = none → Q (.ref p) (upd H1 p (.tup xs.reverse))
theorem pe_revT {X : Cx} {e : Expr} {te : TE} {k : Nat} {p1 p2 p3 pos : Pos} (he : PE X e te) : PE X (.Subscript e (.Slice none none (some (.UnaryOp .USub (.Constant (.int 1) k p1) p2)) p3) pos) (tUn (rRevT X.K) te) := by
  refine ⟨fun pins s σ H Q I h => ?_⟩
  refine Subscript_ (thn (he.run pins s σ H _ I h) fun v s1 ⟨x, H1, I1, r1, q1⟩ => ?_)
  obtain ⟨a, xs, ex, hx, q⟩ := q1
  subst ex
  cases r1
  have hst : PO X (some (.UnaryOp .USub (.Constant (.int 1) k p1) p2)) (tPart (tUn (rU fun i => .int (-i)) (tC (.int 1)))) := po_some (pe_un un_neg pe_int)
  refine wpAny_Slice (thn (po_none.run pins s1 σ H1 (fun o H2 => o = none ∧ H2 = H1) I1 ⟨rfl, rfl⟩) fun vl s2 ⟨l, H2, I2, pl, el, e2⟩ => ?_)
  subst el e2
  refine thn (po_none.run pins s2 σ H2 (fun o H3 => o = none ∧ H3 = H2) I2 ⟨rfl, rfl⟩) fun vu s3 ⟨u, H3, I3, pu, eu, e3⟩ => ?_
  subst eu e3
  refine thn (hst.run pins s3 σ H3 (fun o H4 => o = some (-1) ∧ H4 = H3) I3 ⟨1, rfl, -1, rfl, rfl, rfl⟩) fun vs s4 ⟨o, H4, I4, ps, eo, e4⟩ => ?_
  subst eo e4
  have I5 : Inv X pins σ H4 { s4 with heap := s4.heap.push { cls := .type "slice", data := .fields #[vl, vu, vs] } } := I4.kept (t' := s4.toks) fun b ob q => Heap.get?_push_of_some _ q
  obtain ⟨its, r, ht, hz⟩ := I5.tuple hx
  have hlen : its.toArray.size = xs.length := by rw [List.size_toArray]; exact r.length.symm
  show wpAny (model X.prog X.w) X.A (subscriptTail e (.Slice none none (some (.UnaryOp .USub (.Constant (.int 1) k p1) p2)) p3) (.ref a) (.ref s4.heap.objs.size)) (EP X pins σ Q) X.xe { s4 with heap := s4.heap.push { cls := .type "slice", data := .fields #[vl, vu, vs] } }
  refine tail_any (ops := [.ref a, .ref s4.heap.objs.size]) ht.typeIs PyProof.Rows.slot_tuple_getitem.lookup ?_ (by with_unfolding_all rfl)
  refine getItem_tuple_rev ht (Heap.IsSliceOf.new _ vl vu vs) pl pu ps ?_ (by rw [hlen]; exact hz)
  refine ⟨.ref _, _, I5.laid (t' := s4.toks) (o := .tup xs.reverse) (fun b ob q => Heap.get?_push_of_some _ q) (Nat.le_refl _) ?_, rfl, q _ (I5.hok.fresh (Nat.le_refl _))⟩
  exact ⟨by rw [List.length_reverse]; exact hz, _, r.reverse, IsTup.new _ _⟩
def revF : D → Option D
  | .tup l => some (.tup l.reverse)
  | _ => none
theorem RpL.rev {K : PySem.W.Frag} {cm : Str → Option Addr} {F : Hp} : ∀ {l : List D} {xs : List V}, RpL K cm F l xs → RpL K cm F l.reverse xs.reverse
  | [], xs, h => by
    have := RpL.len h
    simp at this
    subst this
    exact RpL.nil
  | d :: l, xs, h => by
    simp only [RpL] at h
    obtain ⟨v, r, rfl, h1, h2⟩ := h
    rw [List.reverse_cons, List.reverse_cons]
    exact (RpL.rev h2).append (RpL.cons h1 RpL.nil)
section
variable {c : Kc} {W : WX} {X : Cx} {e : Expr} {k : Nat} {p1 p2 p3 pos : Pos} {ra : Env → Out D}
theorem prim_rev : Prim1 c (rRevT c.K) (pur1 revF) := prim1 fun H0 F H env σ x v d Q g hx e q => by
  unfold revF at e
  split at e
  · cases e
    simp only [Rp] at hx
    obtain ⟨a, xs, rfl, h1, r⟩ := hx
    refine ⟨a, xs, rfl, same_T g.le h1, fun p hp => ?_⟩
    have st := g.alloc (o := .tup xs.reverse) hp
    refine q _ _ st _ ?_
    simp only [Rp]
    exact ⟨p, _, rfl, SqT.of upd_same, RpL.mono st.same _ _ (RpL.rev r)⟩
  · cases e
theorem grevT (h : PE X e (tD c W ra)) (hK : X.K = c.K := by rfl) : PE X (.Subscript e (.Slice none none (some (.UnaryOp .USub (.Constant (.int 1) k p1) p2)) p3) pos) (tD c W (un1 (pur1 revF) ra)) := dl_un (pe_revT h) (by rw [hK]; exact prim_rev)
end
/-! () * n -/
theorem tuple_mul0 (l : Addr) (items : Array Value) (n : Nat) (dd : Option Addr) (sl : Array (Option Value)) (x : Int) (u : Tok) (c0 : (decide (x < -(2 ^ 63)) || decide (x ≥ 2 ^ 63)) = false) (c1 : (items.isEmpty || x == 1) = true) :
    Meets (Builtin.«tuple.__mul__» ⟨[.ref l, .int x u], []⟩) (fun _ R s => s.heap.get? l = some { cls := .type "tuple", dict := dd, data := .seq items n, slots := sl } ∧
      R (.ok (.ret (Value.ref l))) s) :=
  .of_wp fun prog w A R s h => by
    obtain ⟨hp, g, d, tk, os⟩ := s
    obtain ⟨hl, h⟩ := h
    have f1 := AutoSeq1.idx_int
    wp_walk using wpAny_loadPart' hl
    repeat (first
      | (refine wpAny_ite_false (decide_eq_false (by rw [c0]; exact Bool.false_ne_true)) ?_; wp_walk using wpAny_loadPart' hl)
      | (refine wpAny_ite_true (decide_eq_true c1) ?_; wp_walk using wpAny_loadPart' hl))
    first | exact h | exact ⟨_, rfl, h⟩
theorem op_repT0 {X : Cx} : OpR X (binaryOp .Mult) (fun x y H Q => ∃ l k, x = .ref l ∧ y = .int k ∧ SqT X.K H l [] ∧ 0 ≤ k ∧ k ≤ 1000 ∧ Q (.ref l) H) := by
  intro pins s σ H x y v u Q I rx ry h
  obtain ⟨l, k, rfl, rfl, hT, h1, h2, q⟩ := h
  cases rx
  obtain ⟨t, rfl⟩ := ry
  obtain ⟨its, r, ⟨⟨cls, dd, data, sl⟩, ho, hc, n, hd⟩, hs⟩ := I.tuple hT
  simp only at hc hd
  subst hc hd
  cases r
  have c0 : (decide (k < -(2 ^ 63)) || decide (k ≥ 2 ^ 63)) = false := by
    rw [decide_eq_false (by omega), decide_eq_false (by omega)] <;> rfl
  have c1 : (([] : List Value).toArray.isEmpty || k == 1) = true := rfl
  refine wpAny_binaryOp_repeat_ref (T := "tuple") (U := "int") (by decide) ⟨_, ho, rfl⟩ (fun s' => typeIs_int s' k t) noFill_tuple_mul F.fills_int_mul F.slot_int_rmul repeat_tuple F.slot_int_index.lookup
    (call_meets F.slot_int_rmul (typeIs_int s k t) F.entry_int_rmul (F.args_int_rmul_2 _ _) (int_rmul_tuple k t l ([] : List Value).toArray n dd sl)
      ⟨ho, rfl, ⟨_, ho, rfl⟩, call_meets F.slot_tuple_mul ⟨_, ho, rfl⟩ F.entry_tuple_mul (F.args_tuple_mul_2 _ _) (tuple_mul0 l ([] : List Value).toArray n dd sl k t c0 c1) ⟨ho, ?_⟩⟩)
  exact ⟨.ref l, H, I, rfl, q⟩
def mulC (x y : D) : Option D := match x, y with
  | .tup [], .int k => if decide (0 ≤ k ∧ k ≤ 1000) = true then some (.tup []) else none
  | x, y => mulB x y
section
variable {c : Kc} {W : WX} {X : Cx} {a b : Expr} {pos : Pos} {ra rb : Env → Out D}
theorem prim_mulC : Prim2 c (fun x y H Q => ((rI CMulW (fun i j => .int (i * j)) x y H Q ∨ rRep x y H Q) ∨ rRepT c.K x y H Q) ∨ (∃ l k, x = .ref l ∧ y = .int k ∧ SqT c.K H l [] ∧ 0 ≤ k ∧ k ≤ 1000 ∧ Q (.ref l) H)) (pur2 mulC) := fun W H0 F H env σ x y v u Q g hx hy q => by
  by_cases ht : ∃ k, x = .tup [] ∧ y = .int k
  · obtain ⟨k, rfl, rfl⟩ := ht
    right
    unfold pur2 mulC at q
    dsimp only at q
    by_cases hk : decide (0 ≤ k ∧ k ≤ 1000) = true
    · rw [if_pos hk] at q
      obtain ⟨k1, k2⟩ := of_decide_eq_true hk
      have hx0 := hx
      simp only [Rp] at hx hy
      obtain ⟨a, xs, rfl, h1, r⟩ := hx
      subst hy
      have : xs = [] := by
        have := RpL.len r
        exact List.eq_nil_of_length_eq_zero (by simpa using this)
      subst this
      exact ⟨a, k, rfl, rfl, same_T g.le h1, k1, k2, q F H (Step.refl g) _ hx0⟩
    · rw [if_neg hk] at q
      exact q.elim
  · left
    refine prim_mulB W H0 F H env σ x y v u Q g hx hy ?_
    have e : mulC x y = mulB x y := by
      unfold mulC
      split
      · rename_i k; exact absurd ⟨k, rfl, rfl⟩ ht
      · rfl
    unfold pur2 at q ⊢
    rw [e] at q
    exact q
theorem gmulC (h1 : PE X a (tD c W ra)) (h2 : PE X b (tD c W rb)) (hK : X.K = c.K := by rfl) : PE X (.BinOp a .Mult b pos) (tD c W (bin2 (pur2 mulC) ra rb)) := dl_bin (pe_op (OpR.or (OpR.or op_mulA (by rw [← hK]; exact op_repT)) (by rw [← hK]; exact op_repT0)) h1 h2) prim_mulC
end
end DL

/-! ==== DL31 -/
/-! DL31: how often a while may turn -/
namespace DL
open PySem L2
/-- more turns than any while here takes -/
@[irreducible] def fuel : Nat := 1000000
theorem fuel_ge {n : Nat} (h : n ≤ 1000000) : n ≤ fuel := by unfold fuel; exact h
end DL

/-! ==== DL32 -/
/-! DL32: str of an instance by its own __str__ -/
namespace PySem.W
open Lean Elab Tactic Meta PySem PySem.Spec PySem.Calls PyProof.Rows
section
variable {prog : Program} {w : World} {M : Model} {A : Around} {E : Value → Shared → Prop} {s : Shared} {K : Frag} {x C f : Addr} {ox : Obj} {od : Option Obj}
open Builtin Builtin.Str in
theorem str_own_dl {Q : Value → Shared → Prop} (hu : A.in1.in1.units < cLine) (X : K.In s.heap) (I : InstAt s.heap x ox C od) (hs : findIn K (.ref C) "__str__" = some (some (.ref f))) (hf : isFn K (.ref f) = true)
    (h : wpAny (model prog w) A.in1.in1 (call (.ref f) [.ref x]) (StrBack Q) E s) : wpAny (model prog w) A (call (.type "str") [.ref x]) Q E s := by
  refine callType_codes (T := "str") (Bi := Builtin.«object.__init__») (Q₁ := fun r s₁ => ∃ y u, r = .str y u ∧ Q r s₁) PySem.F.called_str (PySem.F.typeCall_str_1 _) PySem.F.entry_object_init ?_ ?_
  · refine codeAny_of_tree ?_
    show wpAny _ A.in1.in1 (do checkBuiltinCall "str.__new__" ⟨[.type "str", .ref x], []⟩; again (.builtin "str.__new__" ⟨[.type "str", .ref x], []⟩)) _ _ s
    refine wpAny_bind (wpAny_of_eq (PySem.F.newCall_str_1 _) (wpAny_pure ⟨plainId_quiet (by decide +kernel) _, codeAny_builtin PySem.F.entry_str_new ?_⟩))
    rw [Around.under_plainId (by decide +kernel) _]
    rw [str_new_tree]
    refine wpAny_bind (wpAny_pure ?_)
    refine wpAny_bind (wpAny_of_eq isSubtype_str_str ?_)
    have key : wpAny (model prog w) A.in1.in1 (PySem.Builtin.Str.strOf (.ref x)) (fun r s₁ => ∃ y u, r = .str y u ∧ Q r s₁) E s := by
      unfold PySem.Builtin.Str.strOf
      rw [show isExactStr (.ref x) = false from rfl]
      refine wpAny_bind (m := cRoomFor _ _) (wpAny_cRoomFor hu ?_)
      refine wpAny_bind (m := callSpecial? (.ref x) (Str.ofString "__str__")) (special_fn X I hs (beq_iff_eq.mp hf) (wpAny_mono h (fun r s' z => ?_) fun _ _ y => y))
      cases r <;> first | exact z.elim | exact wpAny_pure ⟨_, _, rfl, z⟩
    exact wpAny_bind (wpAny_mono key (fun r s₁ hr => wpAny_pure hr) fun _ _ y => y)
  · rintro obj s₁ ⟨y, u, rfl, hq⟩
    exact ⟨typeIs_str _ _ _, PySem.F.args_object_init_2 _ _, object_init_meets PySem.F.called_str.init.lookup PySem.F.called_str.made (by decide) prog w A.in1 _ s₁ ⟨typeIs_str _ _ _, rfl, hq⟩⟩
end
end PySem.W
namespace DL
open PySem PySem.Spec PyProof.Rows L2
section
variable {X : Cx} {CX : CXT} {k : Nat} {f C : Addr} {fd : FuncData} {ps : List Str} {sp : L2.Sp} {E : XK}
def rStrO (C : Addr) (sp : L2.Sp) (E : XK) : List V → Hp → VK → Prop := fun xs H Q => ∃ a dx fs, xs = [.ref a] ∧ H a = some (.ins C dx fs) ∧ sp [.ref a] H (fun v H' => ∃ z, v = .str z ∧ Q (.str z) H') E
theorem call_strO (F : FnG X.prog X.w X.K X.mg X.base CX k f fd ps sp) (hr : Room (k + 2) X.A) (gd : X.A.guards = some []) (hb : Binds X.K fd ps []) (hx : Passes CX X E) (hs : PySem.W.findIn X.K (.ref C) "__str__" = some (some (.ref f))) (hf : PySem.W.isFn X.K (.ref f) = true) :
    CallR X (.type "str") (rStrO C sp E) := by
  intro pins s σ H xs us Q I r d
  obtain ⟨a, dx, fs, rfl, ha, hsp⟩ := d
  obtain ⟨u, rfl, ru⟩ := vals1 r
  obtain rfl : u = Value.ref a := ru
  obtain ⟨mA, J, _⟩ := ins_get I.hok ha
  obtain ⟨od, J, _⟩ := J.look
  refine PySem.W.str_own_dl hr.in1.in1.units0 I.kIn J hs hf ?_
  have hl := F.len _ _ _ _ hsp
  have r2 : Vals [V.ref a] [Value.ref a] := .cons rfl .nil
  refine wpAny_call (codeAny_mono (F.run X.A.in1.in1 X.stack s H ⟨[.ref a], []⟩ [.ref a] [.ref a] _ E hr.in1.in1 gd I.env0.in1.in1 (by
    have := hb s [.ref a] I.kIn (by simpa using hl)
    simpa using this) r2 hsp) fun r s' hq => ?_)
  cases r with
  | error e => exact hx pins σ H s e s' I hq
  | ok fl =>
    cases fl with
    | ret w =>
      obtain ⟨z, H', I', rz, y, ez, q⟩ := I.after hq
      subst ez
      obtain ⟨t, rfl⟩ := rz
      exact ⟨.str y, H', I', ⟨t, rfl⟩, q⟩
    | next => exact False.elim hq
    | brk => exact False.elim hq
    | cont => exact False.elim hq
end
/-- str(x) of an instance of the class cn -/
def strO (cn : Str) (fn : List SV → Out D) (ra : Env → Out (List D)) (e : Env) : Out D := (ra e).bind fun ds e1 => match ds with
  | [.obj c1 n1 l1] => if c1 = cn then (match fn [.dat (.obj c1 n1 l1)] with
      | .ok (.str z) _ => .ok (.str z) e1
      | _ => .no) else .no
  | _ => .no
section
variable {c : Kc} {W : WX} {X : Cx} {C : Addr} {x : Str} {p pos : Pos} {e : Expr} {es : List Expr} {rA : Env → Out (List D)}
theorem dl_strO {e : Expr} {cn : Str} {fn : List SV → Out D} {E : XK} (hC : c.cm cn = some C) (h : PE X e (tCB (rStrO C (spF c fn) E) (tA c W rA))) : PE X e (tD c W (strO cn fn rA)) := h.imp fun σ H Q ⟨H0, F, env, g, q⟩ =>
  ⟨H0, F, env, g, q.seq fun ds e1 F1 H1 s1 q1 vs hv => by
    split at q1
    · rename_i c1 n1 l1
      split at q1
      · rename_i hh
        subst hh
        simp only [RpL] at hv
        obtain ⟨v, r0, rfl, r1, rfl⟩ := hv
        have hx0 := r1
        simp only [Rp] at r1
        obtain ⟨a, dx, C1, fs, rfl, k1, w1, _⟩ := r1
        rw [hC] at k1; cases k1
        refine ⟨a, dx, fs, rfl, s1.good.le _ _ w1, ?_⟩
        have hi : ItsOk c F1 e1 σ [.d (.obj c1 n1 l1)] [.ref a] := ⟨_, _, rfl, hx0, rfl⟩
        refine ⟨F1, _, s1.good.handed hi List.nodup_nil, rfl, ?_⟩
        show match fn [.dat (.obj c1 n1 l1)] with | .no => False | .ok d svs' => _ | .ex x svs' => _
        cases er : fn [.dat (.obj c1 n1 l1)] with
        | no => rw [er] at q1; exact q1.elim
        | ex x svs' => rw [er] at q1; exact q1.elim
        | ok d svs' =>
          rw [er] at q1
          cases d with
          | str z =>
            intro F' H' st v hv
            simp only [Rp] at hv
            have := s1.good.called hi List.nodup_nil st
            have e2 : putBack [It.d (.obj c1 n1 l1)] svs' e1 = e1 := by rcases svs' with _ | ⟨s, r⟩ <;> simp [putBack]
            rw [e2] at this
            exact ⟨z, hv, q1 F' H' this _ (by simp only [Rp])⟩
          | _ => exact q1.elim
      · exact q1.elim
    · exact q1.elim⟩
theorem gstrO {cn : Str} {fn : List SV → Out D} {k : Nat} {f : Addr} {fd : FuncData} {ps : List Str} (F : FnG X.prog X.w X.K X.mg X.base CX0 k f fd ps (spF c fn)) (hr : Room (k + 2) X.A) (gd : X.A.guards = some []) (hb : Binds X.K fd ps []) (hC : c.cm cn = some C) (hs : PySem.W.findIn X.K (.ref C) "__str__" = some (some (.ref f))) (hf : PySem.W.isFn X.K (.ref f) = true)
    (hm : X.mg x = none) (hv : bootBuiltins x = some (.type "str")) (ha : PA X (e :: es) (tA c W rA)) (hg : Gl X x := by rfl) (hn : x ≠ "__name__" := by decide) (hdb : (x == ("__debug__" : Str)) = false := by decide)
    (he : starEach (e :: es) X.env = (false, eval e X.env) :: starEach es X.env := by rfl) (hpl : (backTo pos (starEach es X.env)).any (·.1) = false := by rfl) : PE X (.Call (.Name x p) (e :: es) [] pos) (tD c W (strO cn fn rA)) :=
  dl_strO (E := L2.E0) hC (pe_callTy (call_strO F hr gd hb pass00 hs hf) hg hm hv ha hn hdb he hpl)
end
/-! text.split(sep) -/
def splF (a : Str) : D → Option D
  | .str b => if (decide (b.length ≠ 0) && decide (a.length + 2 ≤ sizeLine)) = true then some (.lst ((Txt.split a b).map .str)) else none
  | _ => none
def splitD (ra rb : Env → Out D) (e : Env) : Out D := (ra e).bind fun x e1 => match x with
  | .str a => (rb e1).bind (pur1 (splF a))
  | _ => .no
section
variable {c : Kc} {W : WX} {X : Cx} {o e : Expr} {ra rb : Env → Out D} {apos pos : Pos}
theorem gsplit (ho : PE X o (tD c W ra)) (h : PE X e (tD c W rb)) (hs : starEach [e] X.env = [(false, eval e X.env)] := by rfl) (hbase : attributeBase o "split" X.env (eval o X.env) = eval o X.env := by rfl) (hline : (apos.endLine == pos.line) = true := by rfl) :
    PE X (.Call (.Attribute o "split" apos) [e] [] pos) (tD c W (splitD ra rb)) := (pe_split ho h hs hbase hline).imp fun σ H Q ⟨H0, F, env, g, q⟩ =>
  ⟨H0, F, env, g, q.seq fun x e1 F1 H1 s1 q1 v hv => by
    split at q1
    · rename_i a
      simp only [Rp] at hv
      refine ⟨⟨a, hv⟩, H0, F1, e1, s1.good, q1.seq fun y e2 F2 H2 s2 q2 u hu => ?_⟩
      unfold pur1 at q2
      split at q2
      · rename_i d ed
        unfold splF at ed
        split at ed
        · rename_i b
          split at ed
          · rename_i hz
            cases ed
            simp only [Bool.and_eq_true, decide_eq_true_eq] at hz
            simp only [Rp] at hu
            refine ⟨a, b, hv, by rw [hu], by simpa using hz.1, hz.2, fun p hp => ?_⟩
            have st := s2.good.alloc (o := .lst ((Txt.split a b).map V.str)) hp
            refine q2 _ _ st _ ?_
            simp only [Rp]
            exact ⟨p, _, rfl, upd_same, rpl_strs _⟩
          · cases ed
        · cases ed
      · exact q2.elim
    · exact q1.elim⟩
end
end DL

/-! ==== DL33 -/
/-! DL33: an own list against [] -/
namespace DL
open PySem PySem.Spec PyProof.Rows L2
def ownNil (n : Bool) (i : Nat) (e : Env) : Out D := match e[i]? with
  | some (.own (.L l)) => if okP (.lst l) = true then .ok (.bl (if n then !l.isEmpty else l.isEmpty)) e else .no
  | _ => .no
section
variable {c : Kc} {W : WX} {X : Cx} {a : Expr} {e : Expr} {pos p2 : Pos} {n : Bool} {i : Nat}
theorem dl_ownNil (h : PE X e (tOp (rEqA c.K n) (tVar i) (tD c W (heldD (lstF nilA))))) : PE X e (tD c W (ownNil n i)) := h.imp fun σ H Q ⟨H0, F, env, g, q⟩ => by
  unfold ownNil at q
  split at q
  · rename_i l el
    split at q
    · rename_i ok
      obtain ⟨a, _, ha, _, _⟩ := g.freeze el
      have hz : heldD (lstF nilA) env = .ok (.lst []) env := by
        unfold heldD lstF nilA
        rfl
      refine ⟨_, ha, H0, F, env, g, ?_⟩
      rw [hz]
      intro F' H' st v hv
      obtain ⟨a2, F2, ha2, st2, rp2⟩ := st.good.freeze el
      rw [ha] at ha2
      cases ha2
      have q' := q F' H' st
      have ok2 : okP (.lst []) = true := by decide +kernel
      unfold okP at ok ok2
      simp only [Bool.and_eq_true] at ok ok2
      have ev : PyData.eqv (D.lst l).toP (D.lst []).toP = l.isEmpty := by cases l <;> rfl
      left
      cases n with
      | true => exact ⟨_, _, Rp.dp _ _ ok.1 (Rp.mono st2.good.le _ _ rp2), Rp.dp _ _ ok2.1 (Rp.mono st.good.le _ _ hv), ok.2, ok2.2, by rw [ev]; exact q' _ (by simp [Rp])⟩
      | false => exact ⟨_, _, Rp.dp _ _ ok.1 (Rp.mono st2.good.le _ _ rp2), Rp.dp _ _ ok2.1 (Rp.mono st.good.le _ _ hv), ok.2, ok2.2, by rw [ev]; exact q' _ (by simp [Rp])⟩
    · exact q.elim
  · exact q.elim
theorem gownNilE (i : Nat) (hu : X.A.units + 64 < cLine) (h1 : PE X a (tVar i)) (h2 : PE X (.List [] p2) (tD c W (heldD (lstF nilA)))) (hm : behindInMarks .Eq (.List [] p2) = false := by first | exact nomark _ | rfl) (hK : X.K = c.K := by rfl) : PE X (.Compare a [.Eq] [.List [] p2] pos) (tD c W (ownNil false i)) :=
  dl_ownNil (by rw [← hK]; exact pe_cmpR (op_eqA hu) h1 h2 hm)
theorem gownNilN (i : Nat) (hu : X.A.units + 64 < cLine) (h1 : PE X a (tVar i)) (h2 : PE X (.List [] p2) (tD c W (heldD (lstF nilA)))) (hm : behindInMarks .NotEq (.List [] p2) = false := by first | exact nomark _ | rfl) (hK : X.K = c.K := by rfl) : PE X (.Compare a [.NotEq] [.List [] p2] pos) (tD c W (ownNil true i)) :=
  dl_ownNil (by rw [← hK]; exact pe_cmpR (op_neA hu) h1 h2 hm)
theorem ownNilT_read {σ : L2.St} {H : Hp} {Q : Bool → Hp → Prop} (h : tT c W (valT (ownNil n i)) σ H Q) : tTest (tOp (rEqA c.K n) (tVar i) (tD c W (heldD (lstF nilA)))) σ H Q := by
  obtain ⟨H0, F, env, g, q⟩ := h
  unfold valT ownNil at q
  split at q
  · rename_i l el
    split at q
    · rename_i ok
      obtain ⟨a, _, ha, _, _⟩ := g.freeze el
      have hz : heldD (lstF nilA) env = .ok (.lst []) env := by
        unfold heldD lstF nilA
        rfl
      refine ⟨_, ha, H0, F, env, g, ?_⟩
      rw [hz]
      intro F' H' st v hv
      obtain ⟨a2, F2, ha2, st2, rp2⟩ := st.good.freeze el
      rw [ha] at ha2
      cases ha2
      have q' := q F' H' st
      have ok2 : okP (.lst []) = true := by decide +kernel
      unfold okP at ok ok2
      simp only [Bool.and_eq_true] at ok ok2
      have ev : PyData.eqv (D.lst l).toP (D.lst []).toP = l.isEmpty := by cases l <;> rfl
      left
      cases n with
      | true => exact ⟨_, _, Rp.dp _ _ ok.1 (Rp.mono st2.good.le _ _ rp2), Rp.dp _ _ ok2.1 (Rp.mono st.good.le _ _ hv), ok.2, ok2.2, by rw [ev]; exact ⟨_, rfl, q'⟩⟩
      | false => exact ⟨_, _, Rp.dp _ _ ok.1 (Rp.mono st2.good.le _ _ rp2), Rp.dp _ _ ok2.1 (Rp.mono st.good.le _ _ hv), ok.2, ok2.2, by rw [ev]; exact ⟨_, rfl, q'⟩⟩
    · exact q.elim
  · exact q.elim
theorem gownNilET (i : Nat) (hu : X.A.units + 64 < cLine) (h1 : PE X a (tVar i)) (h2 : PE X (.List [] p2) (tD c W (heldD (lstF nilA)))) (hm : behindInMarks .Eq (.List [] p2) = false := by first | exact nomark _ | rfl) (hK : X.K = c.K := by rfl) : PT X (.Compare a [.Eq] [.List [] p2] pos) (tT c W (valT (ownNil false i))) :=
  (pt_cmpR (op_eqA hu) h1 h2 hm).imp fun σ H Q q => by rw [hK]; exact ownNilT_read q
theorem gownNilNT (i : Nat) (hu : X.A.units + 64 < cLine) (h1 : PE X a (tVar i)) (h2 : PE X (.List [] p2) (tD c W (heldD (lstF nilA)))) (hm : behindInMarks .NotEq (.List [] p2) = false := by first | exact nomark _ | rfl) (hK : X.K = c.K := by rfl) : PT X (.Compare a [.NotEq] [.List [] p2] pos) (tT c W (valT (ownNil true i))) :=
  (pt_cmpR (op_neA hu) h1 h2 hm).imp fun σ H Q q => by rw [hK]; exact ownNilT_read q
end
end DL

/-! ==== GD_K04 -/
/-! GD: what the defs of the law are worth (printed by gen.py) -/
namespace DL.K04
open PySem L2

def b_law_purse : Env → Out (Option (List D)) := (seqL (asgS (bin2 (pur2 ixF) (bin2 (pur2 addF) (cutA (nameD 0) (someO (nameD 1)) (someO (bin2 (pur2 addF) (nameD 1) (constD (.int 1))))) (heldD (lstF (consA (constD (.int 0)) nilA)))) (constD (.int 0))) (setD 2) [2]) (thenL (ifL (orT (valT (bin2 (pur2 geF) (nameD 2) (bin2 (pur2 powF) (constD (.int 10)) (constD (.int 18))))) (valT (bin2 (pur2 ltF) (nameD 2) (constD (.int 0))))) (thenL (retL (lstF (consA (callD max2F (consA (nameD 2) (consA (bin2 (pur2 subF) (un1 (pur1 negF) (constD (.int 1))) (nameD 2)) nilA))) (consA (constD (.int 0)) nilA)))) nilL) nilL) (thenL (retL (lstF (consA (constD (.int 0)) (consA (bin2 (pur2 addF) (constD (.int 1)) (bin2 (pur2 modF) (bin2 (pur2 addF) (bin2 (pur2 mulA) (nameD 2) (constD (.int 48271))) (bin2 (pur2 mulA) (bin2 (pur2 mulA) (bin2 (pur2 addF) (nameD 1) (constD (.int 1))) (constD (.int 69621))) (bin2 (pur2 addF) (nameD 1) (constD (.int 7))))) (constD (.int 2147483629)))) nilA)))) nilL)))
def f_law_purse : List SV → Out (List D) := fnOfL 2 3 b_law_purse

def b_is_name : Env → Out Fl := (seqS (ifS (orT (notT (valT (isiD (kbTy "str") (fun _ => none) (nameD 0)))) (notT (valT (chainD (pur2 leF) (pur2 leF) (constD (.int 1)) (callD (one lenF) (consA (nameD 0) nilA)) (constD (.int 8)))))) (seqS (retS (constD (.bl false)))
  nextS) nextS)
  (seqS (retS (callD (one allF) (consA (heldD (compF [1] (itA (nameD 0)) (setD 1) yesT (bin2 (pur2 (inF false)) (nameD 1) (constD (.str ("abcdefghijklmnopqrstuvwxyz" : Str)))))) nilA)))
  nextS))
def f_is_name : List SV → Out D := fnOf 1 2 b_is_name

def b_check_bells : Env → Out Fl := (seqS (ifS (orT (notT (valT (isiD (kbTy "tuple") (fun _ => none) (nameD 0)))) (notT (valT (chainD (pur2 leF) (pur2 leF) (constD (.int 1)) (callD (one lenF) (consA (nameD 0) nilA)) (constD (.int 12)))))) (seqS neverS
  nextS) nextS)
  (seqS (forS (itEA (consA (nameD 0) nilA)) (setTup 2 (setCons (setD 1) (setCons (setD 2) setNil))) ([1] ++ ([2] ++ [])) (seqS (ifS (orT (notT (valT (callS (fnCall K04.f_is_name) (posA []) (consRd (nameD 2) nilR) nilR))) (andT (valT (bin2 (pur2 gtF) (nameD 1) (constD (.int 0)))) (valT (bin2 (pur2 leA) (nameD 2) (bin2 (pur2 ixF) (nameD 0) (bin2 (pur2 subF) (nameD 1) (constD (.int 1)))))))) (seqS neverS
  nextS) nextS)
  nextS))
  nextS))
def f_check_bells : List SV → Out D := fnOf 1 3 b_check_bells

def b_is_wake : Env → Out Fl := (seqS (ifS (orT (notT (valT (isiD (kbTy "tuple") (fun _ => none) (nameD 0)))) (valT (bin2 (pur2 (eqF true)) (callD (one lenF) (consA (nameD 0) nilA)) (constD (.int 2))))) (seqS (retS (constD (.bl false)))
  nextS) nextS)
  (seqS (retS (callD (one allF) (consA (heldD (compF [2] (itA (nameD 0)) (setD 2) yesT (andD (callS (fnCall K04.f_is_name) (posA []) (consRd (nameD 2) nilR) nilR) (bin2 (pur2 (inF false)) (nameD 2) (nameD 1))))) nilA)))
  nextS))
def f_is_wake : List SV → Out D := fnOf 2 3 b_is_wake

def b_check_wakes : Env → Out Fl := (seqS (ifS (notT (valT (isiD (kbTy "tuple") (fun _ => none) (nameD 0)))) (seqS neverS
  nextS) nextS)
  (seqS (forS (itEA (consA (nameD 0) nilA)) (setTup 2 (setCons (setD 2) (setCons (setD 3) setNil))) ([2] ++ ([3] ++ [])) (seqS (ifS (orT (notT (valT (callS (fnCall K04.f_is_wake) (posA []) (consRd (nameD 3) (consRd (nameD 1) nilR)) nilR))) (andT (valT (bin2 (pur2 gtF) (nameD 2) (constD (.int 0)))) (valT (bin2 (pur2 leA) (nameD 3) (bin2 (pur2 ixF) (nameD 0) (bin2 (pur2 subF) (nameD 2) (constD (.int 1)))))))) (seqS neverS
  nextS) nextS)
  nextS))
  nextS))
def f_check_wakes : List SV → Out D := fnOf 2 4 b_check_wakes

def b_Web_init : Env → List (Str × D) → Out (List (Str × D)) := (seqN (doN (callS (fnCall K04.f_check_bells) (posA []) (consRd (nameD 1) nilR) nilR)) (seqN (doN (callS (fnCall K04.f_check_wakes) (posA []) (consRd (nameD 2) (consRd (nameD 1) nilR)) nilR)) (seqN (fldN ("bells" : Str) (nameD 1)) (seqN (fldN ("wakes" : Str) (nameD 2)) nilN))))
def f_Web_init : List SV → Out (List (Str × D)) := fnN 3 3 b_Web_init

def b_Web_turned : Env → Out Fl := (seqS (retS (callS (mkCall ("Web" : Str) K04.f_Web_init) kwA (consRd (fldD ("Web" : Str) ("bells" : Str) (nameD 0)) nilR) (consRd (callD (one tupleF) (consA (heldD (sortF (consA (heldD (compF [1, 2] (itA (fldD ("Web" : Str) ("wakes" : Str) (nameD 0))) (setTup 2 (setCons (setD 1) (setCons (setD 2) setNil))) yesT (tupD (consA (nameD 2) (consA (nameD 1) nilA))))) nilA))) nilA)) nilR)))
  nextS)
def f_Web_turned : List SV → Out D := fnOf 1 3 b_Web_turned

def b_law_take : Env → Out Fl := (seqS (ifS (valT (bin2 (pur2 (eqF false)) (ownIx 0 (constD (.int 1))) (constD (.int 0)))) (seqS (asgS (bin2 (pur2 modF) (ownIx 0 (constD (.int 0))) (nameD 1)) (setD 2) [2])
  (seqS (storeS 0 (constD (.int 0)) (bin2 (pur2 fdivF) (ownIx 0 (constD (.int 0))) (nameD 1)))
  (seqS (retS (nameD 2))
  nextS))) nextS)
  (seqS (storeS 0 (constD (.int 1)) (bin2 (pur2 addF) (constD (.int 1)) (bin2 (pur2 modF) (bin2 (pur2 addF) (bin2 (pur2 mulA) (ownIx 0 (constD (.int 1))) (constD (.int 39373))) (constD (.int 7919))) (constD (.int 2147483587)))))
  (seqS (retS (bin2 (pur2 modF) (bin2 (pur2 fdivF) (bin2 (pur2 modF) (bin2 (pur2 mulA) (ownIx 0 (constD (.int 1))) (constD (.int 30269))) (constD (.int 2147483563))) (constD (.int 11))) (nameD 1)))
  nextS)))
def f_law_take : List SV → Out D := fnOf 2 3 b_law_take

def b_law_calls : Env → Out Fl := (seqS (asgS (constD (.str ("abcdefghijklmnopqrstuvwxyz" : Str))) (setD 2) [2])
  (seqS (asgS (heldD (lstF (consA (constD (.str ("pull" : Str))) (consA (constD (.str ("put" : Str))) (consA (constD (.str ("strike" : Str))) (consA (constD (.str ("wake" : Str))) (consA (constD (.str ("unwake" : Str))) (consA (constD (.str ("back" : Str))) (consA (constD (.str ("web" : Str))) (consA (constD (.str ("pulls" : Str))) (consA (constD (.str ("heard" : Str))) (consA (constD (.str ("live" : Str))) (consA (constD (.str ("rung" : Str))) (consA (constD (.str ("can" : Str))) (consA (constD (.str ("most" : Str))) (consA (constD (.str ("end" : Str))) (consA (constD (.str ("round" : Str))) (consA (constD (.str ("paper" : Str))) (consA (constD (.str ("none" : Str))) (consA (constD (.str ("a" : Str))) (consA (constD (.str ("b" : Str))) (consA (constD (.str ("ab" : Str))) nilA)))))))))))))))))))))) (setD 3) [3])
  (seqS (parT [4, 5] (consMd (callS (fnCall K04.f_law_take) (posA []) (consRr 0 (consRd (constD (.int 20)) nilR)) nilR) (consMd (callS (fnCall K04.f_law_take) (posA []) (consRr 0 (consRd (constD (.int 4)) nilR)) nilR) nilM)))
  (seqS (ifS (valT (bin2 (pur2 (eqF false)) (nameD 5) (constD (.int 0)))) (seqS (retS (heldD (sortF (consA (heldD (compF [9] (itR1 (consA (nameD 1) nilA)) (setD 9) yesT (bin2 (pur2 ixF) (nameD 3) (bin2 (pur2 modF) (bin2 (pur2 addF) (nameD 4) (bin2 (pur2 mulA) (constD (.int 3)) (nameD 9))) (constD (.int 20)))))) nilA))))
  nextS) nextS)
  (seqS (asgS (joinD (constD (.str ("" : Str))) (heldD (compF [9] (itR1 (consA (callS (fnCall K04.f_law_take) (posA []) (consRr 0 (consRd (constD (.int 8)) nilR)) nilR) nilA)) (setD 9) yesT (bin2 (pur2 ixF) (nameD 2) (callS (fnCall K04.f_law_take) (posA []) (consRr 0 (consRd (constD (.int 26)) nilR)) nilR))))) (setD 6) [6])
  (seqS (parT [7, 8] (consMd (callS (fnCall K04.f_law_take) (posA []) (consRr 0 (consRd (bin2 (pur2 addF) (callD (one lenF) (consA (nameD 6) nilA)) (constD (.int 1))) nilR)) nilR) (consMd (callS (fnCall K04.f_law_take) (posA []) (consRr 0 (consRd (constD (.int 26)) nilR)) nilR) nilM)))
  (seqS (retS (heldD (sortF (consA (heldD (compF [9] (itR1 (consA (nameD 1) nilA)) (setD 9) yesT (bin2 (pur2 addF) (bin2 (pur2 addF) (cutA (nameD 6) noO (someO (nameD 7))) (bin2 (pur2 ixF) (nameD 2) (bin2 (pur2 modF) (bin2 (pur2 addF) (nameD 8) (bin2 (pur2 mulA) (constD (.int 5)) (nameD 9))) (constD (.int 26))))) (cutA (nameD 6) (someO (nameD 7)) noO)))) nilA))))
  nextS)))))))
def f_law_calls : List SV → Out D := fnOf 2 10 b_law_calls

def b_law_links : Env → Out Fl := (seqS (parS [2, 3, 4] (consMd (callS (fnCall K04.f_law_take) (posA []) (consRr 0 (consRd (constD (.int 8)) nilR)) nilR) (consMd (bin2 (pur2 addF) (constD (.int 1)) (callS (fnCall K04.f_law_take) (posA []) (consRr 0 (consRd (constD (.int 3)) nilR)) nilR)) (consMf (newL (lstF nilA)) nilM))))
  (seqS (forS (itEA (consA (nameD 1) nilA)) (setTup 2 (setCons (setD 5) (setCons (setD 6) setNil))) ([5] ++ ([6] ++ [])) (seqS (forS (itEA (consA (nameD 1) nilA)) (setTup 2 (setCons (setD 7) (setCons (setD 8) setNil))) ([7] ++ ([8] ++ [])) (seqS (parS [9, 10] (consMd (andD (bin2 (pur2 gtF) (nameD 2) (constD (.int 4))) (bin2 (pur2 ltF) (callS (fnCall K04.f_law_take) (posA []) (consRr 0 (consRd (constD (.int 6)) nilR)) nilR) (nameD 3))) (consMd (bin2 (pur2 (eqF false)) (bin2 (pur2 modF) (bin2 (pur2 addF) (nameD 5) (constD (.int 1))) (callD (one lenF) (consA (nameD 1) nilA))) (nameD 7)) nilM)))
  (seqS (asgS (orD (nameD 10) (bin2 (pur2 (eqF false)) (bin2 (pur2 modF) (bin2 (pur2 addF) (nameD 7) (constD (.int 1))) (callD (one lenF) (consA (nameD 1) nilA))) (nameD 5))) (setD 11) [11])
  (seqS (ifS (valT (bin2 (pur2 ixF) (heldD (lstF (consA (constD (.bl false)) (consA (nameD 10) (consA (nameD 11) (consA (bin2 (pur2 (eqF false)) (nameD 5) (nameD 7)) (consA (constD (.bl true)) (consA (nameD 9) (consA (nameD 9) (consA (orD (nameD 10) (nameD 9)) nilA)))))))))) (nameD 2))) (seqS (appS 4 (tupD (consA (nameD 6) (consA (nameD 8) nilA))))
  nextS) nextS)
  nextS))))
  nextS))
  (seqS (retS (nameD 4))
  nextS)))
def f_law_links : List SV → Out D := fnOf 2 12 b_law_links

def b_Web_eq : Env → Out Fl := (seqS (retS (andD (isiD (fun _ => none) (fun n => if n = ("Web" : Str) then some true else none) (nameD 1)) (andD (bin2 (pur2 (eqF false)) (fldD ("Web" : Str) ("bells" : Str) (nameD 0)) (fldD ("Web" : Str) ("bells" : Str) (nameD 1))) (bin2 (pur2 (eqF false)) (fldD ("Web" : Str) ("wakes" : Str) (nameD 0)) (fldD ("Web" : Str) ("wakes" : Str) (nameD 1))))))
  nextS)
def f_Web_eq : List SV → Out D := fnOf 2 2 b_Web_eq

def b_Web_only : Env → Out Fl := (seqS (ifS (orT (notT (valT (isiD (kbTy "tuple") (fun _ => none) (nameD 1)))) (notT (valT (chainD (pur2 leF) (pur2 leF) (constD (.int 1)) (callD (one lenF) (consA (nameD 1) nilA)) (constD (.int 12)))))) (seqS neverS
  nextS) nextS)
  (seqS (forS (itEA (consA (nameD 1) nilA)) (setTup 2 (setCons (setD 2) (setCons (setD 3) setNil))) ([2] ++ ([3] ++ [])) (seqS (ifS (orT (notT (valT (callS (fnCall K04.f_is_name) (posA []) (consRd (nameD 3) nilR) nilR))) (orT (valT (bin2 (pur2 (inF true)) (nameD 3) (fldD ("Web" : Str) ("bells" : Str) (nameD 0)))) (andT (valT (bin2 (pur2 gtF) (nameD 2) (constD (.int 0)))) (valT (bin2 (pur2 leA) (nameD 3) (bin2 (pur2 ixF) (nameD 1) (bin2 (pur2 subF) (nameD 2) (constD (.int 1))))))))) (seqS neverS
  nextS) nextS)
  nextS))
  (seqS (retS (callS (mkCall ("Web" : Str) K04.f_Web_init) kwA (consRd (nameD 1) nilR) (consRd (callD (one tupleF) (consA (heldD (compF [4] (itA (fldD ("Web" : Str) ("wakes" : Str) (nameD 0))) (setD 4) (andT (valT (bin2 (pur2 (inF false)) (bin2 (pur2 ixF) (nameD 4) (constD (.int 0))) (nameD 1))) (valT (bin2 (pur2 (inF false)) (bin2 (pur2 ixF) (nameD 4) (constD (.int 1))) (nameD 1)))) (nameD 4))) nilA)) nilR)))
  nextS)))
def f_Web_only : List SV → Out D := fnOf 2 5 b_Web_only

def b_law_some : Env → Out Fl := (seqS (asgS (heldD (compF [3] (itA (nameD 1)) (setD 3) (valT (bin2 (pur2 gtF) (callS (fnCall K04.f_law_take) (posA []) (consRr 0 (consRd (constD (.int 3)) nilR)) nilR) (constD (.int 0)))) (nameD 3))) (setD 2) [2])
  (seqS (retS (ifD (valT (bin2 (pur2 (eqF true)) (nameD 2) (heldD (lstF nilA)))) (nameD 2) (heldD (lstF (consA (bin2 (pur2 ixF) (nameD 1) (callS (fnCall K04.f_law_take) (posA []) (consRr 0 (consRd (callD (one lenF) (consA (nameD 1) nilA)) nilR)) nilR)) nilA)))))
  nextS))
def f_law_some : List SV → Out D := fnOf 2 4 b_law_some

def b_check_bell : Env → Out Fl := (seqS (ifS (orT (notT (valT (isiD (kbTy "str") (fun _ => none) (nameD 1)))) (valT (bin2 (pur2 (inF true)) (nameD 1) (fldD ("Web" : Str) ("bells" : Str) (nameD 0))))) (seqS neverS
  nextS) nextS)
  nextS)
def f_check_bell : List SV → Out D := fnOf 2 2 b_check_bell

def b_Web_wakers : Env → Out Fl := (seqS (dropS (callS (fnCall K04.f_check_bell) (posA []) (consRd (nameD 0) (consRd (nameD 1) nilR)) nilR))
  (seqS (retS (callD (one tupleF) (consA (heldD (compF [2, 3] (itA (fldD ("Web" : Str) ("wakes" : Str) (nameD 0))) (setTup 2 (setCons (setD 2) (setCons (setD 3) setNil))) (valT (bin2 (pur2 (eqF false)) (nameD 3) (nameD 1))) (nameD 2))) nilA)))
  nextS))
def f_Web_wakers : List SV → Out D := fnOf 2 4 b_Web_wakers

def b_Web_woken : Env → Out Fl := (seqS (dropS (callS (fnCall K04.f_check_bell) (posA []) (consRd (nameD 0) (consRd (nameD 1) nilR)) nilR))
  (seqS (retS (callD (one tupleF) (consA (heldD (compF [2, 3] (itA (fldD ("Web" : Str) ("wakes" : Str) (nameD 0))) (setTup 2 (setCons (setD 2) (setCons (setD 3) setNil))) (valT (bin2 (pur2 (eqF false)) (nameD 2) (nameD 1))) (nameD 3))) nilA)))
  nextS))
def f_Web_woken : List SV → Out D := fnOf 2 4 b_Web_woken

def b_law_sums_right : Env → Out Fl := (seqS (asgS (methS ("Web" : Str) ("turned" : Str) K04.f_Web_turned [] (nameD 0) nilR) (setD 1) [1])
  (seqS (ifS (orT (notT (valT (bin2 (eqA ("Web" : Str) K04.f_Web_eq false) (methS ("Web" : Str) ("turned" : Str) K04.f_Web_turned [] (nameD 1) nilR) (nameD 0)))) (orT (valT (bin2 (eqA ("Web" : Str) K04.f_Web_eq true) (methS ("Web" : Str) ("turned" : Str) K04.f_Web_turned [] (nameD 1) nilR) (nameD 0))) (valT (bin2 (eqA ("Web" : Str) K04.f_Web_eq true) (methS ("Web" : Str) ("only" : Str) K04.f_Web_only [] (nameD 0) (consRd (fldD ("Web" : Str) ("bells" : Str) (nameD 0)) nilR)) (nameD 0))))) (seqS (retS (constD (.bl false)))
  nextS) nextS)
  (seqS (forS (itA (fldD ("Web" : Str) ("bells" : Str) (nameD 0))) (setD 2) [2] (seqS (ifS (orT (valT (bin2 (pur2 (eqF true)) (methS ("Web" : Str) ("woken" : Str) K04.f_Web_woken [] (nameD 0) (consRd (nameD 2) nilR)) (methS ("Web" : Str) ("wakers" : Str) K04.f_Web_wakers [] (nameD 1) (consRd (nameD 2) nilR)))) (valT (bin2 (pur2 (eqF true)) (methS ("Web" : Str) ("wakers" : Str) K04.f_Web_wakers [] (nameD 0) (consRd (nameD 2) nilR)) (methS ("Web" : Str) ("woken" : Str) K04.f_Web_woken [] (nameD 1) (consRd (nameD 2) nilR))))) (seqS (retS (constD (.bl false)))
  nextS) nextS)
  (seqS (ifS (notT (valT (callD (one allF) (consA (heldD (compF [5] (itA (methS ("Web" : Str) ("woken" : Str) K04.f_Web_woken [] (nameD 0) (consRd (nameD 2) nilR))) (setD 5) yesT (bin2 (pur2 (inF false)) (nameD 2) (methS ("Web" : Str) ("wakers" : Str) K04.f_Web_wakers [] (nameD 0) (consRd (nameD 5) nilR))))) nilA)))) (seqS (retS (constD (.bl false)))
  nextS) nextS)
  (seqS (ifS (notT (valT (callD (one allF) (consA (heldD (compF [5] (itA (methS ("Web" : Str) ("wakers" : Str) K04.f_Web_wakers [] (nameD 0) (consRd (nameD 2) nilR))) (setD 5) yesT (bin2 (pur2 (inF false)) (nameD 2) (methS ("Web" : Str) ("woken" : Str) K04.f_Web_woken [] (nameD 0) (consRd (nameD 5) nilR))))) nilA)))) (seqS (retS (constD (.bl false)))
  nextS) nextS)
  (seqS (asgS (callD (one int1F) (consA (bin2 (pur2 (inF false)) (tupD (consA (nameD 2) (consA (nameD 2) nilA))) (fldD ("Web" : Str) ("wakes" : Str) (nameD 0))) nilA)) (setD 4) [4])
  (seqS (ifS (orT (valT (bin2 (pur2 (eqF true)) (callD (one lenF) (consA (fldD ("Web" : Str) ("wakes" : Str) (methS ("Web" : Str) ("only" : Str) K04.f_Web_only [] (nameD 0) (consRd (tupD (consA (nameD 2) nilA)) nilR))) nilA)) (nameD 4))) (valT (bin2 (pur2 (eqF true)) (bin2 (pur2 (inF false)) (nameD 2) (methS ("Web" : Str) ("woken" : Str) K04.f_Web_woken [] (nameD 0) (consRd (nameD 2) nilR))) (bin2 (pur2 (eqF false)) (nameD 4) (constD (.int 1)))))) (seqS (retS (constD (.bl false)))
  nextS) nextS)
  nextS))))))
  (seqS (asgS (heldD (lstF (consA (callD (one sumF) (consA (heldD (compF [2] (itA (fldD ("Web" : Str) ("bells" : Str) (nameD 0))) (setD 2) yesT (callD (one lenF) (consA (methS ("Web" : Str) ("woken" : Str) K04.f_Web_woken [] (nameD 0) (consRd (nameD 2) nilR)) nilA)))) nilA)) (consA (callD (one sumF) (consA (heldD (compF [2] (itA (fldD ("Web" : Str) ("bells" : Str) (nameD 0))) (setD 2) yesT (callD (one lenF) (consA (methS ("Web" : Str) ("wakers" : Str) K04.f_Web_wakers [] (nameD 0) (consRd (nameD 2) nilR)) nilA)))) nilA)) nilA)))) (setD 3) [3])
  (seqS (retS (bin2 (pur2 (eqF false)) (nameD 3) (bin2 (pur2 mulA) (heldD (lstF (consA (callD (one lenF) (consA (fldD ("Web" : Str) ("wakes" : Str) (nameD 0)) nilA)) nilA))) (constD (.int 2)))))
  nextS)))))
def f_law_sums_right : List SV → Out D := fnOf 1 6 b_law_sums_right

def b_law_parts_right : Env → Out Fl := (seqS (asgS (callS (fnCall K04.f_law_some) (posA []) (consRr 0 (consRd (heldD (listF (consA (fldD ("Web" : Str) ("bells" : Str) (nameD 1)) nilA))) nilR)) nilR) (setD 2) [2])
  (seqS (asgS (callS (fnCall K04.f_law_some) (posA []) (consRr 0 (consRd (nameD 2) nilR)) nilR) (setD 3) [3])
  (seqS (asgS (heldD (compF [8] (itA (fldD ("Web" : Str) ("bells" : Str) (nameD 1))) (setD 8) (valT (bin2 (pur2 (inF true)) (nameD 8) (nameD 2))) (nameD 8))) (setD 4) [4])
  (seqS (asgS (methS ("Web" : Str) ("only" : Str) K04.f_Web_only [] (nameD 1) (consRd (callD (one tupleF) (consA (nameD 2) nilA)) nilR)) (setD 5) [5])
  (seqS (ifS (orT (valT (bin2 (eqA ("Web" : Str) K04.f_Web_eq true) (methS ("Web" : Str) ("only" : Str) K04.f_Web_only [] (nameD 5) (consRd (callD (one tupleF) (consA (nameD 3) nilA)) nilR)) (methS ("Web" : Str) ("only" : Str) K04.f_Web_only [] (nameD 1) (consRd (callD (one tupleF) (consA (nameD 3) nilA)) nilR)))) (valT (bin2 (eqA ("Web" : Str) K04.f_Web_eq true) (methS ("Web" : Str) ("turned" : Str) K04.f_Web_turned [] (nameD 5) nilR) (methS ("Web" : Str) ("only" : Str) K04.f_Web_only [] (methS ("Web" : Str) ("turned" : Str) K04.f_Web_turned [] (nameD 1) nilR) (consRd (callD (one tupleF) (consA (nameD 2) nilA)) nilR))))) (seqS (retS (constD (.bl false)))
  nextS) nextS)
  (seqS (asgS (heldD (compF [9] (itA (fldD ("Web" : Str) ("wakes" : Str) (nameD 1))) (setD 9) (valT (bin2 (pur2 (eqF true)) (bin2 (pur2 (inF false)) (bin2 (pur2 ixF) (nameD 9) (constD (.int 0))) (nameD 2)) (bin2 (pur2 (inF false)) (bin2 (pur2 ixF) (nameD 9) (constD (.int 1))) (nameD 2)))) (nameD 9))) (setD 6) [6])
  (seqS (asgS (heldD (lstF nilA)) (setD 7) [7])
  (seqS (ifS (valT (bin2 (pur2 (eqF true)) (nameD 4) (heldD (lstF nilA)))) (seqS (asgS (heldD (listF (consA (fldD ("Web" : Str) ("wakes" : Str) (methS ("Web" : Str) ("only" : Str) K04.f_Web_only [] (nameD 1) (consRd (callD (one tupleF) (consA (nameD 4) nilA)) nilR))) nilA))) (setD 7) [7])
  nextS) nextS)
  (seqS (retS (andD (bin2 (pur2 (eqF false)) (callD (one tupleF) (consA (heldD (sortF (consA (bin2 (pur2 addF) (bin2 (pur2 addF) (heldD (listF (consA (fldD ("Web" : Str) ("wakes" : Str) (nameD 5)) nilA))) (nameD 7)) (nameD 6)) nilA))) nilA)) (fldD ("Web" : Str) ("wakes" : Str) (nameD 1))) (callS (fnCall K04.f_law_sums_right) (posA []) (consRd (nameD 5) nilR) nilR)))
  nextS)))))))))
def f_law_parts_right : List SV → Out D := fnOf 2 10 b_law_parts_right

def b_law_size : Env → Out Fl := (seqS (retS (bin2 (pur2 ixF) (heldD (lstF (consA (bin2 (pur2 addF) (constD (.int 1)) (callS (fnCall K04.f_law_take) (posA []) (consRr 0 (consRd (nameD 1) nilR)) nilR)) (consA (constD (.int 12)) nilA)))) (callD (one int1F) (consA (bin2 (pur2 (eqF false)) (callS (fnCall K04.f_law_take) (posA []) (consRr 0 (consRd (constD (.int 8)) nilR)) nilR) (constD (.int 3))) nilA))))
  nextS)
def f_law_size : List SV → Out D := fnOf 2 2 b_law_size

def b_law_web : Env → Out Fl := (seqS (retS (callS (mkCall ("Web" : Str) K04.f_Web_init) kwA (consRd (callD (one tupleF) (consA (nameD 0) nilA)) nilR) (consRd (callD (one tupleF) (consA (nameD 1) nilA)) nilR)))
  nextS)
def f_law_web : List SV → Out D := fnOf 2 2 b_law_web

def b_law_right : Env → Out Fl := (seqS (asgS (callS (fnCall K04.f_law_calls) (posA []) (consRr 0 (consRd (callS (fnCall K04.f_law_size) (posA []) (consRr 0 (consRd (constD (.int 7)) nilR)) nilR) nilR)) nilR) (setD 1) [1])
  (seqS (asgS (callS (fnCall K04.f_law_web) (posA []) (consRd (nameD 1) (consRd (callS (fnCall K04.f_law_links) (posA []) (consRr 0 (consRd (nameD 1) nilR)) nilR) nilR)) nilR) (setD 2) [2])
  (seqS (ifS (notT (valT (callD (one allF) (consA (heldD (compF [3] (itR1 (consA (constD (.int 4)) nilA)) (setD 3) yesT (callS (fnCall K04.f_law_parts_right) (posA []) (consRr 0 (consRd (nameD 2) nilR)) nilR))) nilA)))) (seqS (retS (constD (.bl false)))
  nextS) nextS)
  (seqS (retS (andD (callS (fnCall K04.f_law_sums_right) (posA []) (consRd (nameD 2) nilR) nilR) (callS (fnCall K04.f_law_sums_right) (posA []) (consRd (methS ("Web" : Str) ("turned" : Str) K04.f_Web_turned [] (nameD 2) nilR) nilR) nilR)))
  nextS))))
def f_law_right : List SV → Out D := fnOf 1 4 b_law_right

def b_law : Env → Out Fl := (seqS (retS (callD (one allF) (consA (heldD (compF [1] (itR1 (consA (callD max2F (consA (constD (.int 2)) (consA (callD min2F (consA (callD (one lenF) (consA (nameD 0) nilA)) (consA (constD (.int 8)) nilA))) nilA))) nilA)) (setD 1) yesT (callFS K04.f_law_right (newL (callLS K04.f_law_purse (consRd (nameD 0) (consRd (nameD 1) nilR)))) nilR))) nilA)))
  nextS)
def f_law : List SV → Out D := fnOf 1 2 b_law

end DL.K04

/-! ==== GD_K05 -/
/-! GD: what the defs of the law are worth (printed by gen.py) -/
namespace DL.K05
open PySem L2

def b_Web_str : Env → Out Fl := (seqS (asgOS 1 (lstF nilA))
  (seqS (forS (itA (fldD ("Web" : Str) ("bells" : Str) (nameD 0))) (setD 2) [2] (seqS (asgS (methS ("Web" : Str) ("woken" : Str) K04.f_Web_woken [] (nameD 0) (consRd (nameD 2) nilR)) (setD 3) [3])
  (seqS (appS 1 (ifD (valT (bin2 (pur2 (eqF true)) (nameD 3) (tupD nilA))) (joinD (constD (.str (" " : Str))) (bin2 (pur2 addF) (heldD (lstF (consA (nameD 2) (consA (constD (.str (">" : Str))) nilA)))) (heldD (listF (consA (nameD 3) nilA))))) (nameD 2)))
  nextS)))
  (seqS (retS (joinD (constD (.str ("\n" : Str))) (nameD 1)))
  nextS)))
def f_Web_str : List SV → Out D := fnOf 1 4 b_Web_str

def b_law_text : Env → Out Fl := (seqS (asgOS 2 (lstF nilA))
  (seqS (forS (itA (nameD 0)) (setD 3) [3] (seqS (asgS (heldD (compF [5] (itA (nameD 1)) (setD 5) (valT (bin2 (pur2 (eqF false)) (bin2 (pur2 ixF) (nameD 5) (constD (.int 0))) (nameD 3))) (bin2 (pur2 ixF) (nameD 5) (constD (.int 1))))) (setD 4) [4])
  (seqS (appS 2 (joinD (constD (.str (" " : Str))) (bin2 (pur2 addF) (bin2 (pur2 addF) (heldD (lstF (consA (nameD 3) nilA))) (bin2 (pur2 mulA) (heldD (lstF (consA (constD (.str (">" : Str))) nilA))) (callD (one int1F) (consA (bin2 (pur2 (eqF true)) (nameD 4) (heldD (lstF nilA))) nilA)))) (nameD 4))))
  nextS)))
  (seqS (retS (joinD (constD (.str ("\n" : Str))) (nameD 2)))
  nextS)))
def f_law_text : List SV → Out D := fnOf 2 6 b_law_text

def b_read_row : Env → Out Fl := (seqS (asgS (splitD (nameD 0) (constD (.str (" " : Str)))) (setD 1) [1])
  (seqS (parT [2, 3] (consMd (bin2 (pur2 ixF) (nameD 1) (constD (.int 0))) (consMd (cutA (nameD 1) (someO (constD (.int 2))) noO) nilM)))
  (seqS (ifS (andT (valT (bin2 (pur2 gtF) (callD (one lenF) (consA (nameD 1) nilA)) (constD (.int 1)))) (orT (valT (bin2 (pur2 (eqF true)) (bin2 (pur2 ixF) (nameD 1) (constD (.int 1))) (constD (.str (">" : Str))))) (valT (bin2 (pur2 (eqF false)) (nameD 3) (heldD (lstF nilA)))))) (seqS (retS (constD .non))
  nextS) nextS)
  (seqS (ifS (notT (valT (callD (one allF) (consA (heldD (compF [4] (itA (bin2 (pur2 addF) (heldD (lstF (consA (nameD 2) nilA))) (nameD 3))) (setD 4) yesT (callS (fnCall K04.f_is_name) (posA []) (consRd (nameD 4) nilR) nilR))) nilA)))) (seqS (retS (constD .non))
  nextS) nextS)
  (seqS (ifS (notT (valT (callD (one allF) (consA (heldD (compF [5] (itR1 (consA (bin2 (pur2 subF) (callD (one lenF) (consA (nameD 3) nilA)) (constD (.int 1))) nilA)) (setD 5) yesT (bin2 (pur2 ltF) (bin2 (pur2 ixA) (nameD 3) (nameD 5)) (bin2 (pur2 ixF) (nameD 3) (bin2 (pur2 addF) (nameD 5) (constD (.int 1))))))) nilA)))) (seqS (retS (constD .non))
  nextS) nextS)
  (seqS (retS (tupD (consA (nameD 2) (consA (nameD 3) nilA))))
  nextS))))))
def f_read_row : List SV → Out D := fnOf 1 6 b_read_row

def b_read_web : Env → Out Fl := (seqS (ifS (notT (valT (isiD (kbTy "str") (fun _ => none) (nameD 0)))) (seqS neverS
  nextS) nextS)
  (seqS (parT [1, 2] (consMf (newL (lstF nilA)) (consMf (newL (lstF nilA)) nilM)))
  (seqS (asgS (splitD (nameD 0) (constD (.str ("\n" : Str)))) (setD 3) [3])
  (seqS (forS (itEA (consA (nameD 3) nilA)) (setTup 2 (setCons (setD 4) (setCons (setD 5) setNil))) ([4] ++ ([5] ++ [])) (seqS (asgS (callS (fnCall K05.f_read_row) (posA []) (consRd (nameD 5) nilR) nilR) (setD 6) [6])
  (seqS (ifS (orT (valT (bin2 (pur2 (isF false)) (nameD 6) (constD .non))) (orT (valT (bin2 (pur2 geF) (nameD 4) (constD (.int 12)))) (andT (valT (ownNil true 1)) (valT (bin2 (pur2 leA) (bin2 (pur2 ixF) (nameD 6) (constD (.int 0))) (ownIx 1 (un1 (pur1 negF) (constD (.int 1))))))))) (seqS neverS
  nextS) nextS)
  (seqS (appS 1 (bin2 (pur2 ixF) (nameD 6) (constD (.int 0))))
  (seqS (extS 2 (heldD (compF [7] (itA (bin2 (pur2 ixF) (nameD 6) (constD (.int 1)))) (setD 7) yesT (tupD (consA (bin2 (pur2 ixF) (nameD 6) (constD (.int 0))) (consA (nameD 7) nilA))))))
  nextS)))))
  (seqS (ifS (notT (valT (callD (one allF) (consA (heldD (compF [8, 7] (itA (nameD 2)) (setTup 2 (setCons (setD 8) (setCons (setD 7) setNil))) yesT (ownIn false 1 (nameD 7)))) nilA)))) (seqS neverS
  nextS) nextS)
  (seqS (retS (callS (mkCall ("Web" : Str) K04.f_Web_init) kwA (consRd (callD (one tupleF) (consA (nameD 1) nilA)) nilR) (consRd (callD (one tupleF) (consA (nameD 2) nilA)) nilR)))
  nextS))))))
def f_read_web : List SV → Out D := fnOf 1 9 b_read_web

def b_law_read_right : Env → Out Fl := (seqS (parS [2, 3] (consMd (callS (fnCall K05.f_law_text) (posA []) (consRd (nameD 0) (consRd (nameD 1) nilR)) nilR) (consMd (callS (fnCall K04.f_law_web) (posA []) (consRd (nameD 0) (consRd (nameD 1) nilR)) nilR) nilM)))
  (seqS (forS (itA (heldD (lstF (consA (callS (fnCall K05.f_read_web) (posA []) (consRd (nameD 2) nilR) nilR) (consA (callS (fnCall K05.f_read_web) (layL (.d .non) (.d .non) [some 0]) nilR (consRd (nameD 2) nilR)) (consA (callS (fnCall K05.f_read_web) (posA []) (consRd (strO ("Web" : Str) K05.f_Web_str (consA (nameD 3) nilA)) nilR) nilR) (consA (callS (fnCall K05.f_read_web) (posA []) (consRd (nameD 2) nilR) nilR) nilA))))))) (setD 4) [4] (seqS (ifS (orT (notT (valT (isiD (fun _ => none) (fun n => if n = ("Web" : Str) then some true else none) (nameD 4)))) (valT (bin2 (pur2 (eqF true)) (callD (one reprF) (consA (tupD (consA (fldD ("Web" : Str) ("bells" : Str) (nameD 4)) (consA (fldD ("Web" : Str) ("wakes" : Str) (nameD 4)) nilA))) nilA)) (callD (one reprF) (consA (tupD (consA (callD (one tupleF) (consA (nameD 0) nilA)) (consA (callD (one tupleF) (consA (nameD 1) nilA)) nilA))) nilA))))) (seqS (retS (constD (.bl false)))
  nextS) nextS)
  (seqS (ifS (orT (valT (bin2 (pur2 (eqF true)) (strO ("Web" : Str) K05.f_Web_str (consA (nameD 4) nilA)) (nameD 2))) (orT (notT (valT (bin2 (eqA ("Web" : Str) K04.f_Web_eq false) (nameD 4) (nameD 3)))) (valT (bin2 (eqA ("Web" : Str) K04.f_Web_eq true) (nameD 4) (nameD 3))))) (seqS (retS (constD (.bl false)))
  nextS) nextS)
  nextS)))
  (seqS (retS (bin2 (pur2 (eqF false)) (strO ("Web" : Str) K05.f_Web_str (consA (nameD 3) nilA)) (nameD 2)))
  nextS)))
def f_law_read_right : List SV → Out D := fnOf 2 5 b_law_read_right

def b_law_right : Env → Out Fl := (seqS (asgS (callS (fnCall K04.f_law_calls) (posA []) (consRr 0 (consRd (callS (fnCall K04.f_law_size) (posA []) (consRr 0 (consRd (constD (.int 7)) nilR)) nilR) nilR)) nilR) (setD 1) [1])
  (seqS (asgS (callS (fnCall K04.f_law_links) (posA []) (consRr 0 (consRd (nameD 1) nilR)) nilR) (setD 2) [2])
  (seqS (ifS (notT (valT (callS (fnCall K05.f_law_read_right) (posA []) (consRd (nameD 1) (consRd (nameD 2) nilR)) nilR))) (seqS (retS (constD (.bl false)))
  nextS) nextS)
  (seqS (asgS (heldD (compF [4] (itA (nameD 1)) (setD 4) (valT (bin2 (pur2 gtF) (callS (fnCall K04.f_law_take) (posA []) (consRr 0 (consRd (constD (.int 3)) nilR)) nilR) (constD (.int 0)))) (nameD 4))) (setD 3) [3])
  (seqS (ifS (valT (bin2 (pur2 (eqF false)) (nameD 3) (heldD (lstF nilA)))) (seqS (asgS (cutA (nameD 1) (someO (un1 (pur1 negF) (constD (.int 1)))) noO) (setD 3) [3])
  nextS) nextS)
  (seqS (retS (callS (fnCall K05.f_law_read_right) (posA []) (consRd (nameD 3) (consRd (heldD (compF [5] (itA (nameD 2)) (setD 5) (andT (valT (bin2 (pur2 (inF false)) (bin2 (pur2 ixF) (nameD 5) (constD (.int 0))) (nameD 3))) (valT (bin2 (pur2 (inF false)) (bin2 (pur2 ixF) (nameD 5) (constD (.int 1))) (nameD 3)))) (nameD 5))) nilR)) nilR))
  nextS))))))
def f_law_right : List SV → Out D := fnOf 1 6 b_law_right

def b_law : Env → Out Fl := (seqS (retS (callD (one allF) (consA (heldD (compF [1] (itR1 (consA (callD max2F (consA (constD (.int 2)) (consA (callD min2F (consA (callD (one lenF) (consA (nameD 0) nilA)) (consA (constD (.int 8)) nilA))) nilA))) nilA)) (setD 1) yesT (callFS K05.f_law_right (newL (callLS K04.f_law_purse (consRd (nameD 0) (consRd (nameD 1) nilR)))) nilR))) nilA)))
  nextS)
def f_law : List SV → Out D := fnOf 1 2 b_law

end DL.K05

/-! ==== GW_K05 -/
/-! GW: the walk (printed by gen.py) -/
namespace DL.K05
open PySem PySem.Spec PyProof.Rows L2

def top (i : Nat) : Stmt := PySem.Challenge.pw_wakebells_k05_texts_of_webs_read_back.main.body.getD i (.Pass ⟨0, 0, 0, 0⟩)
abbrev s_law_purse : Stmt := top 22
abbrev s_law_take : Stmt := top 23
abbrev s_law_calls : Stmt := top 24
abbrev s_law_links : Stmt := top 25
abbrev s_Web_eq : Stmt := inClass (top 16) 6
abbrev s_check_bell : Stmt := top 17
abbrev s_Web_woken : Stmt := inClass (top 16) 1
abbrev s_Web_str : Stmt := inClass (top 16) 7
abbrev s_law_text : Stmt := top 28
abbrev s_is_name : Stmt := top 12
abbrev s_check_bells : Stmt := top 13
abbrev s_is_wake : Stmt := top 14
abbrev s_check_wakes : Stmt := top 15
abbrev s_Web_init : Stmt := inClass (top 16) 0
abbrev s_law_web : Stmt := top 27
abbrev s_read_row : Stmt := top 19
abbrev s_read_web : Stmt := top 20
abbrev s_law_read_right : Stmt := top 29
abbrev s_law_size : Stmt := top 26
abbrev s_law_right : Stmt := top 30
abbrev s_law : Stmt := top 31

/-- what the top has written, as the walk wants it -/
structure TX (K : PySem.W.Frag) (mg : Str → Option Value) where
  C_Web : Addr
  a_law_purse : Addr
  fd_law_purse : FuncData
  fn_law_purse : FunD K ("_law_purse" : Str) ("_law_purse" : Str) (defArgs s_law_purse) (defBody s_law_purse) (defScope s_law_purse) [] [] a_law_purse fd_law_purse
  a_law_take : Addr
  fd_law_take : FuncData
  fn_law_take : FunD K ("_law_take" : Str) ("_law_take" : Str) (defArgs s_law_take) (defBody s_law_take) (defScope s_law_take) [] [] a_law_take fd_law_take
  a_law_calls : Addr
  fd_law_calls : FuncData
  fn_law_calls : FunD K ("_law_calls" : Str) ("_law_calls" : Str) (defArgs s_law_calls) (defBody s_law_calls) (defScope s_law_calls) [] [] a_law_calls fd_law_calls
  a_law_links : Addr
  fd_law_links : FuncData
  fn_law_links : FunD K ("_law_links" : Str) ("_law_links" : Str) (defArgs s_law_links) (defBody s_law_links) (defScope s_law_links) [] [] a_law_links fd_law_links
  a_Web_eq : Addr
  fd_Web_eq : FuncData
  fn_Web_eq : FunD K ("__eq__" : Str) ("Web.__eq__" : Str) (defArgs s_Web_eq) (defBody s_Web_eq) (defScope s_Web_eq) [] [] a_Web_eq fd_Web_eq
  a_check_bell : Addr
  fd_check_bell : FuncData
  fn_check_bell : FunD K ("check_bell" : Str) ("check_bell" : Str) (defArgs s_check_bell) (defBody s_check_bell) (defScope s_check_bell) [] [] a_check_bell fd_check_bell
  a_Web_woken : Addr
  fd_Web_woken : FuncData
  fn_Web_woken : FunD K ("woken" : Str) ("Web.woken" : Str) (defArgs s_Web_woken) (defBody s_Web_woken) (defScope s_Web_woken) [] [] a_Web_woken fd_Web_woken
  a_Web_str : Addr
  fd_Web_str : FuncData
  fn_Web_str : FunD K ("__str__" : Str) ("Web.__str__" : Str) (defArgs s_Web_str) (defBody s_Web_str) (defScope s_Web_str) [] [] a_Web_str fd_Web_str
  a_law_text : Addr
  fd_law_text : FuncData
  fn_law_text : FunD K ("_law_text" : Str) ("_law_text" : Str) (defArgs s_law_text) (defBody s_law_text) (defScope s_law_text) [] [] a_law_text fd_law_text
  a_is_name : Addr
  fd_is_name : FuncData
  fn_is_name : FunD K ("is_name" : Str) ("is_name" : Str) (defArgs s_is_name) (defBody s_is_name) (defScope s_is_name) [] [] a_is_name fd_is_name
  a_check_bells : Addr
  fd_check_bells : FuncData
  fn_check_bells : FunD K ("check_bells" : Str) ("check_bells" : Str) (defArgs s_check_bells) (defBody s_check_bells) (defScope s_check_bells) [] [] a_check_bells fd_check_bells
  a_is_wake : Addr
  fd_is_wake : FuncData
  fn_is_wake : FunD K ("is_wake" : Str) ("is_wake" : Str) (defArgs s_is_wake) (defBody s_is_wake) (defScope s_is_wake) [] [] a_is_wake fd_is_wake
  a_check_wakes : Addr
  fd_check_wakes : FuncData
  fn_check_wakes : FunD K ("check_wakes" : Str) ("check_wakes" : Str) (defArgs s_check_wakes) (defBody s_check_wakes) (defScope s_check_wakes) [] [] a_check_wakes fd_check_wakes
  a_Web_init : Addr
  fd_Web_init : FuncData
  fn_Web_init : FunD K ("__init__" : Str) ("Web.__init__" : Str) (defArgs s_Web_init) (defBody s_Web_init) (defScope s_Web_init) [] [] a_Web_init fd_Web_init
  a_law_web : Addr
  fd_law_web : FuncData
  fn_law_web : FunD K ("_law_web" : Str) ("_law_web" : Str) (defArgs s_law_web) (defBody s_law_web) (defScope s_law_web) [] [] a_law_web fd_law_web
  a_read_row : Addr
  fd_read_row : FuncData
  fn_read_row : FunD K ("read_row" : Str) ("read_row" : Str) (defArgs s_read_row) (defBody s_read_row) (defScope s_read_row) [] [] a_read_row fd_read_row
  a_read_web : Addr
  fd_read_web : FuncData
  fn_read_web : FunD K ("read_web" : Str) ("read_web" : Str) (defArgs s_read_web) (defBody s_read_web) (defScope s_read_web) [] [] a_read_web fd_read_web
  a_law_read_right : Addr
  fd_law_read_right : FuncData
  fn_law_read_right : FunD K ("_law_read_right" : Str) ("_law_read_right" : Str) (defArgs s_law_read_right) (defBody s_law_read_right) (defScope s_law_read_right) [] [] a_law_read_right fd_law_read_right
  a_law_size : Addr
  fd_law_size : FuncData
  fn_law_size : FunD K ("_law_size" : Str) ("_law_size" : Str) (defArgs s_law_size) (defBody s_law_size) (defScope s_law_size) [] [] a_law_size fd_law_size
  a_law_right : Addr
  fd_law_right : FuncData
  fn_law_right : FunD K ("_law_right" : Str) ("_law_right" : Str) (defArgs s_law_right) (defBody s_law_right) (defScope s_law_right) [] [] a_law_right fd_law_right
  a_law : Addr
  fd_law : FuncData
  fn_law : FunD K ("law" : Str) ("law" : Str) (defArgs s_law) (defBody s_law) (defScope s_law) [] [] a_law fd_law
  mg_law_purse : mg ("_law_purse" : Str) = some (.ref a_law_purse)
  mg_law_take : mg ("_law_take" : Str) = some (.ref a_law_take)
  mg_law_calls : mg ("_law_calls" : Str) = some (.ref a_law_calls)
  mg_law_links : mg ("_law_links" : Str) = some (.ref a_law_links)
  mg_check_bell : mg ("check_bell" : Str) = some (.ref a_check_bell)
  mg_law_text : mg ("_law_text" : Str) = some (.ref a_law_text)
  mg_is_name : mg ("is_name" : Str) = some (.ref a_is_name)
  mg_check_bells : mg ("check_bells" : Str) = some (.ref a_check_bells)
  mg_is_wake : mg ("is_wake" : Str) = some (.ref a_is_wake)
  mg_check_wakes : mg ("check_wakes" : Str) = some (.ref a_check_wakes)
  mg_law_web : mg ("_law_web" : Str) = some (.ref a_law_web)
  mg_read_row : mg ("read_row" : Str) = some (.ref a_read_row)
  mg_read_web : mg ("read_web" : Str) = some (.ref a_read_web)
  mg_law_read_right : mg ("_law_read_right" : Str) = some (.ref a_law_read_right)
  mg_law_size : mg ("_law_size" : Str) = some (.ref a_law_size)
  mg_law_right : mg ("_law_right" : Str) = some (.ref a_law_right)
  mg_law : mg ("law" : Str) = some (.ref a_law)
  mg_Web : mg ("Web" : Str) = some (.ref C_Web)
  cl_Web : Cls K C_Web
  na_Web_bells : NoAttr K C_Web ("bells" : Str)
  na_Web_wakes : NoAttr K C_Web ("wakes" : Str)
  mk_Web : Mk K C_Web a_Web_init
  me_Web_eq : Meth K C_Web ("__eq__" : Str) a_Web_eq
  me_Web_woken : Meth K C_Web ("woken" : Str) a_Web_woken
  me_Web_str : Meth K C_Web ("__str__" : Str) a_Web_str
  co_Web : ClsOk K C_Web
  ki_Web : PySem.W.kitOne K (.ref C_Web) (.ref C_Web) = some true
  ne_Web : PySem.W.findIn K (.ref C_Web) "__ne__" = some (some (.builtin "object.__ne__"))
  b_all : mg "all" = none
  b_enumerate : mg "enumerate" = none
  b_int : mg "int" = none
  b_isinstance : mg "isinstance" = none
  b_len : mg "len" = none
  b_list : mg "list" = none
  b_max : mg "max" = none
  b_min : mg "min" = none
  b_range : mg "range" = none
  b_repr : mg "repr" = none
  b_sorted : mg "sorted" = none
  b_str : mg "str" = none
  b_tuple : mg "tuple" = none
  t_LETTERS : Tok
  g_LETTERS : mg "LETTERS" = some (.str ("abcdefghijklmnopqrstuvwxyz" : Str) t_LETTERS)
  t_MOST_BELLS : Tok
  g_MOST_BELLS : mg "MOST_BELLS" = some (.int 12 t_MOST_BELLS)
  t_MOST_LETTERS : Tok
  g_MOST_LETTERS : mg "MOST_LETTERS" = some (.int 8 t_MOST_LETTERS)
section
variable {P : Program} {w : World} {K : PySem.W.Frag} {mg : Str → Option Value} {base : Heap}
def ck (T : TX K mg) : Kc := ⟨K, fun cn => if cn = ("Web" : Str) then some T.C_Web else none⟩
theorem TX.cm_Web (T : TX K mg) : (ck T).cm ("Web" : Str) = some T.C_Web := by
  unfold ck
  simp
theorem TX.ok_Web_bells (T : TX K mg) : ∀ C, (ck T).cm ("Web" : Str) = some C → Cls (ck T).K C ∧ NoAttr (ck T).K C ("bells" : Str) := fun C h => by
  rw [T.cm_Web] at h; cases h
  exact ⟨T.cl_Web, T.na_Web_bells⟩
theorem TX.ok_Web_wakes (T : TX K mg) : ∀ C, (ck T).cm ("Web" : Str) = some C → Cls (ck T).K C ∧ NoAttr (ck T).K C ("wakes" : Str) := fun C h => by
  rw [T.cm_Web] at h; cases h
  exact ⟨T.cl_Web, T.na_Web_wakes⟩
theorem TX.eq_Web (T : TX K mg) : PySem.W.findIn K (.ref T.C_Web) "__eq__" = some (some (.ref T.a_Web_eq)) := T.me_Web_eq.at_
theorem TX.kt_str (T : TX K mg) : ∀ n b, kbTy "str" n = some b → PySem.W.kitOne (ck T).K (.type n) (.type "str") = some b := kit_str
theorem TX.kt_tuple (T : TX K mg) : ∀ n b, kbTy "tuple" n = some b → PySem.W.kitOne (ck T).K (.type n) (.type "tuple") = some b := kit_tuple
theorem bd_law_purse (T : TX K mg) : Binds K T.fd_law_purse [("_law_script" : Str), ("_law_k" : Str)] [] := T.fn_law_purse.bindsN fun _ _ _ _ _ _ us hl => match us, hl with | [_, _], _ => rfl
theorem bd_law_take (T : TX K mg) : Binds K T.fd_law_take [("_law_purse_here" : Str), ("_law_upto" : Str)] [] := T.fn_law_take.bindsN fun _ _ _ _ _ _ us hl => match us, hl with | [_, _], _ => rfl
theorem bd_law_calls (T : TX K mg) : Binds K T.fd_law_calls [("_law_purse_here" : Str), ("_law_count" : Str)] [] := T.fn_law_calls.bindsN fun _ _ _ _ _ _ us hl => match us, hl with | [_, _], _ => rfl
theorem bd_law_links (T : TX K mg) : Binds K T.fd_law_links [("_law_purse_here" : Str), ("_law_calls_here" : Str)] [] := T.fn_law_links.bindsN fun _ _ _ _ _ _ us hl => match us, hl with | [_, _], _ => rfl
theorem bd_Web_eq (T : TX K mg) : Binds K T.fd_Web_eq [("self" : Str), ("other" : Str)] [] := T.fn_Web_eq.bindsN fun _ _ _ _ _ _ us hl => match us, hl with | [_, _], _ => rfl
theorem bd_check_bell (T : TX K mg) : Binds K T.fd_check_bell [("web" : Str), ("name" : Str)] [] := T.fn_check_bell.bindsN fun _ _ _ _ _ _ us hl => match us, hl with | [_, _], _ => rfl
theorem bd_Web_woken (T : TX K mg) : Binds K T.fd_Web_woken [("self" : Str), ("name" : Str)] [] := T.fn_Web_woken.bindsN fun _ _ _ _ _ _ us hl => match us, hl with | [_, _], _ => rfl
theorem bd_Web_str (T : TX K mg) : Binds K T.fd_Web_str [("self" : Str)] [] := T.fn_Web_str.bindsN fun _ _ _ _ _ _ us hl => match us, hl with | [_], _ => rfl
theorem bd_law_text (T : TX K mg) : Binds K T.fd_law_text [("_law_calls_here" : Str), ("_law_links_here" : Str)] [] := T.fn_law_text.bindsN fun _ _ _ _ _ _ us hl => match us, hl with | [_, _], _ => rfl
theorem bd_is_name (T : TX K mg) : Binds K T.fd_is_name [("thing" : Str)] [] := T.fn_is_name.bindsN fun _ _ _ _ _ _ us hl => match us, hl with | [_], _ => rfl
theorem bd_check_bells (T : TX K mg) : Binds K T.fd_check_bells [("bells" : Str)] [] := T.fn_check_bells.bindsN fun _ _ _ _ _ _ us hl => match us, hl with | [_], _ => rfl
theorem bd_is_wake (T : TX K mg) : Binds K T.fd_is_wake [("thing" : Str), ("bells" : Str)] [] := T.fn_is_wake.bindsN fun _ _ _ _ _ _ us hl => match us, hl with | [_, _], _ => rfl
theorem bd_check_wakes (T : TX K mg) : Binds K T.fd_check_wakes [("wakes" : Str), ("bells" : Str)] [] := T.fn_check_wakes.bindsN fun _ _ _ _ _ _ us hl => match us, hl with | [_, _], _ => rfl
theorem kb_Web_init_2 (T : TX K mg) : KBn K T.fd_Web_init [("self" : Str), ("bells" : Str), ("wakes" : Str)] 2 [("wakes" : Str)] (fun us ws => us ++ ws) (fun vs zs => vs ++ zs) := kbn_of T.fn_Web_init fun _ _ _ _ _ _ us ws h1 h2 => match us, ws, h1, h2 with | [_, _], [_], _, _ => rfl
theorem bd_law_web (T : TX K mg) : Binds K T.fd_law_web [("_law_calls_here" : Str), ("_law_links_here" : Str)] [] := T.fn_law_web.bindsN fun _ _ _ _ _ _ us hl => match us, hl with | [_, _], _ => rfl
theorem bd_read_row (T : TX K mg) : Binds K T.fd_read_row [("row" : Str)] [] := T.fn_read_row.bindsN fun _ _ _ _ _ _ us hl => match us, hl with | [_], _ => rfl
theorem bd_read_web (T : TX K mg) : Binds K T.fd_read_web [("text" : Str)] [] := T.fn_read_web.bindsN fun _ _ _ _ _ _ us hl => match us, hl with | [_], _ => rfl
theorem kp_read_web_0_text (T : TX K mg) : ∃ g, KBn K T.fd_read_web [("text" : Str)] 0 [("text" : Str)] g (layL V.non V.non [some 0]) := kbp_of [some 0] T.fn_read_web fun _ _ _ _ _ _ us ws h1 h2 => match us, ws, h1, h2 with | [], [_], _, _ => rfl
theorem bd_law_read_right (T : TX K mg) : Binds K T.fd_law_read_right [("_law_calls_here" : Str), ("_law_links_here" : Str)] [] := T.fn_law_read_right.bindsN fun _ _ _ _ _ _ us hl => match us, hl with | [_, _], _ => rfl
theorem bd_law_size (T : TX K mg) : Binds K T.fd_law_size [("_law_purse_here" : Str), ("_law_upto" : Str)] [] := T.fn_law_size.bindsN fun _ _ _ _ _ _ us hl => match us, hl with | [_, _], _ => rfl
theorem bd_law_right (T : TX K mg) : Binds K T.fd_law_right [("_law_purse_here" : Str)] [] := T.fn_law_right.bindsN fun _ _ _ _ _ _ us hl => match us, hl with | [_], _ => rfl
theorem bd_law (T : TX K mg) : Binds K T.fd_law [("_law_script" : Str)] [] := T.fn_law.bindsN fun _ _ _ _ _ _ us hl => match us, hl with | [_], _ => rfl
theorem sc_law_purse : FnScope [("_law_script" : Str), ("_law_k" : Str), ("_law_cell" : Str)] [("_law_script" : Str), ("_law_k" : Str)] (defScope s_law_purse) := ⟨rfl, rfl, rfl, by decide +kernel, rfl, by decide +kernel, by decide +kernel⟩
theorem ok_law_purse (T : TX K mg) : FnG P w K mg base CX0 1 T.a_law_purse T.fd_law_purse [("_law_script" : Str), ("_law_k" : Str)] (spL (ck T) K04.f_law_purse) := by
  refine funD_okG T.fn_law_purse sc_law_purse (fun vs H Q E h => spL_len h) (fun cdv A outer s H vs Q E hr gd0 h => ?_)
  have nd := sc_law_purse.nd
  have gd : (A.deeper (envOfC ("_law_purse" : Str) (defScope s_law_purse) s.heap.objs.size T.a_law_purse cdv)).guards = some [] := gd0
  have hu0 := hr.units0
  have hu1 : (A.deeper (envOfC ("_law_purse" : Str) (defScope s_law_purse) s.heap.objs.size T.a_law_purse cdv)).units + 1 < cLine := by have := hr.un; omega
  have hu62 : (A.deeper (envOfC ("_law_purse" : Str) (defScope s_law_purse) s.heap.objs.size T.a_law_purse cdv)).units + 62 < cLine := by have := hr.un; omega
  have hu64 : (A.deeper (envOfC ("_law_purse" : Str) (defScope s_law_purse) s.heap.objs.size T.a_law_purse cdv)).units + 64 < cLine := by have := hr.un; omega
  have hu65 : (A.deeper (envOfC ("_law_purse" : Str) (defScope s_law_purse) s.heap.objs.size T.a_law_purse cdv)).units + 65 < cLine := by have := hr.un; omega
  exact ⟨tL (ck T) (fun _ => E) K04.b_law_purse, (l1 (sset 2 nd (gix (gadd (gcut (gv 0) (gO1 (gv 1)) (gO1 (gadd (gv 1) gi))) (gheld (glst (gA1 gi gA0)))) gi)) (l2 (lif ((gorW (gcmpT kge (gv 2) (gpow gi gi)) (pw_or1 (gcmpT klt (gv 2) gi)))).pt (l2 (lret (glst (gA1 (gblt bmax2 T.b_max vb_max (gA1 (gv 2) (gA1 (gsub (gneg gi) (gv 2)) gA0))) (gA1 gi gA0)))) l0) l0) (l2 (lret (glst (gA1 gi (gA1 (gadd gi (gmod (gadd (gmul (gv 2) gi) (gmul (gmul (gadd (gv 1) gi) gi) (gadd (gv 1) gi))) gi)) gA0)))) l0))), bodyL_ok h⟩
theorem sc_law_take : FnScope [("_law_purse_here" : Str), ("_law_upto" : Str), ("_law_found" : Str)] [("_law_purse_here" : Str), ("_law_upto" : Str)] (defScope s_law_take) := ⟨rfl, rfl, rfl, by decide +kernel, rfl, by decide +kernel, by decide +kernel⟩
theorem ok_law_take (T : TX K mg) : FnG P w K mg base CX0 1 T.a_law_take T.fd_law_take [("_law_purse_here" : Str), ("_law_upto" : Str)] (spF (ck T) K04.f_law_take) := by
  refine funD_okG T.fn_law_take sc_law_take (fun vs H Q E h => spF_len h) (fun cdv A outer s H vs Q E hr gd0 h => ?_)
  have nd := sc_law_take.nd
  have gd : (A.deeper (envOfC ("_law_take" : Str) (defScope s_law_take) s.heap.objs.size T.a_law_take cdv)).guards = some [] := gd0
  have hu0 := hr.units0
  have hu1 : (A.deeper (envOfC ("_law_take" : Str) (defScope s_law_take) s.heap.objs.size T.a_law_take cdv)).units + 1 < cLine := by have := hr.un; omega
  have hu62 : (A.deeper (envOfC ("_law_take" : Str) (defScope s_law_take) s.heap.objs.size T.a_law_take cdv)).units + 62 < cLine := by have := hr.un; omega
  have hu64 : (A.deeper (envOfC ("_law_take" : Str) (defScope s_law_take) s.heap.objs.size T.a_law_take cdv)).units + 64 < cLine := by have := hr.un; omega
  have hu65 : (A.deeper (envOfC ("_law_take" : Str) (defScope s_law_take) s.heap.objs.size T.a_law_take cdv)).units + 65 < cLine := by have := hr.un; omega
  exact ⟨tS (ck T) (fun _ => E) K04.b_law_take, (s1 (sif (gcmpT (keq hu64) (goix 0 (gvar 0) gi) gi) (s1 (sset 2 nd (gmod (goix 0 (gvar 0) gi) (gv 1)))
    (s1 (sstore 0 (gvar 0) gi (gfdiv (goix 0 (gvar 0) gi) (gv 1)))
    (s1 (sret (gv 2))
    s0))) s0)
    (s1 (sstore 0 (gvar 0) gi (gadd gi (gmod (gadd (gmul (goix 0 (gvar 0) gi) gi) gi) gi)))
    (s1 (sret (gmod (gfdiv (gmod (gmul (goix 0 (gvar 0) gi) gi) gi) gi) (gv 1)))
    s0))), body_ok h⟩
theorem sc_law_calls : FnScope [("_law_purse_here" : Str), ("_law_count" : Str), ("_law_letters" : Str), ("_law_menu" : Str), ("_law_first" : Str), ("_law_way" : Str), ("_law_stem" : Str), ("_law_at" : Str), ("_law_begin" : Str), ("_law_k" : Str)] [("_law_purse_here" : Str), ("_law_count" : Str)] (defScope s_law_calls) := ⟨rfl, rfl, rfl, by decide +kernel, rfl, by decide +kernel, by decide +kernel⟩
theorem ok_law_calls (T : TX K mg) : FnG P w K mg base CX0 2 T.a_law_calls T.fd_law_calls [("_law_purse_here" : Str), ("_law_count" : Str)] (spF (ck T) K04.f_law_calls) := by
  refine funD_okG T.fn_law_calls sc_law_calls (fun vs H Q E h => spF_len h) (fun cdv A outer s H vs Q E hr gd0 h => ?_)
  have nd := sc_law_calls.nd
  have gd : (A.deeper (envOfC ("_law_calls" : Str) (defScope s_law_calls) s.heap.objs.size T.a_law_calls cdv)).guards = some [] := gd0
  have hu0 := hr.units0
  have hu1 : (A.deeper (envOfC ("_law_calls" : Str) (defScope s_law_calls) s.heap.objs.size T.a_law_calls cdv)).units + 1 < cLine := by have := hr.un; omega
  have hu62 : (A.deeper (envOfC ("_law_calls" : Str) (defScope s_law_calls) s.heap.objs.size T.a_law_calls cdv)).units + 62 < cLine := by have := hr.un; omega
  have hu64 : (A.deeper (envOfC ("_law_calls" : Str) (defScope s_law_calls) s.heap.objs.size T.a_law_calls cdv)).units + 64 < cLine := by have := hr.un; omega
  have hu65 : (A.deeper (envOfC ("_law_calls" : Str) (defScope s_law_calls) s.heap.objs.size T.a_law_calls cdv)).units + 65 < cLine := by have := hr.un; omega
  exact ⟨tS (ck T) (fun _ => E) K04.b_law_calls, (s1 (sset 2 nd gs)
    (s1 (sset 3 nd (gheld (glst (gA1 gs (gA1 gs (gA1 gs (gA1 gs (gA1 gs (gA1 gs (gA1 gs (gA1 gs (gA1 gs (gA1 gs (gA1 gs (gA1 gs (gA1 gs (gA1 gs (gA1 gs (gA1 gs (gA1 gs (gA1 gs (gA1 gs (gA1 gs gA0)))))))))))))))))))))))
    (s1 (sparT (gN1 4 nd (gN1 5 nd gN0)) (gMd (gcall (bd_law_take T) (ok_law_take T) (hr.mono (by decide)) gd .nil rpl_nil T.mg_law_take T.fn_law_take.kp (len_r (len_d len_nil)) (gRr 0 (gvar 0) (gRd gi gR0))) (gMd (gcall (bd_law_take T) (ok_law_take T) (hr.mono (by decide)) gd .nil rpl_nil T.mg_law_take T.fn_law_take.kp (len_r (len_d len_nil)) (gRr 0 (gvar 0) (gRd gi gR0))) gM0)))
    (s1 (sif (gcmpT (keq hu64) (gv 5) gi) (s1 (sret (gheld (gsorted hu62 T.b_sorted vb_sorted (gA1 (gheld (gcomp [(("_law_k" : Str), 9)] nd (ir1 T.b_range (gv 1)) (by kernel_rfl) (fun _ _ _ _ _ => (tn 9 nd)) (fun _ _ _ _ _ => gyes) (fun _ _ _ _ _ => (gix (gv 3) (gmod (gadd (gv 4) (gmul gi (gv 9))) gi))))) gA0))))
    s0) s0)
    (s1 (sset 6 nd (gjoin gs (gheld (gcomp [(("_law_k" : Str), 9)] nd (ir1 T.b_range (gcall (bd_law_take T) (ok_law_take T) (hr.mono (by decide)) gd .nil rpl_nil T.mg_law_take T.fn_law_take.kp (len_r (len_d len_nil)) (gRr 0 (gvar 0) (gRd gi gR0)))) (by kernel_rfl) (fun _ _ _ _ _ => (tn 9 nd)) (fun _ _ _ _ _ => gyes) (fun _ _ _ _ _ => (gix (gv 2) (gcall (bd_law_take T) (ok_law_take T) (hr.mono (by decide)) gd .nil rpl_nil T.mg_law_take T.fn_law_take.kp (len_r (len_d len_nil)) (gRr 0 (gvar 0) (gRd gi gR0)))))))))
    (s1 (sparT (gN1 7 nd (gN1 8 nd gN0)) (gMd (gcall (bd_law_take T) (ok_law_take T) (hr.mono (by decide)) gd .nil rpl_nil T.mg_law_take T.fn_law_take.kp (len_r (len_d len_nil)) (gRr 0 (gvar 0) (gRd (gadd (gblt blen T.b_len vb_len (gA1 (gv 6) gA0)) gi) gR0))) (gMd (gcall (bd_law_take T) (ok_law_take T) (hr.mono (by decide)) gd .nil rpl_nil T.mg_law_take T.fn_law_take.kp (len_r (len_d len_nil)) (gRr 0 (gvar 0) (gRd gi gR0))) gM0)))
    (s1 (sret (gheld (gsorted hu62 T.b_sorted vb_sorted (gA1 (gheld (gcomp [(("_law_k" : Str), 9)] nd (ir1 T.b_range (gv 1)) (by kernel_rfl) (fun _ _ _ _ _ => (tn 9 nd)) (fun _ _ _ _ _ => gyes) (fun _ _ _ _ _ => (gadd (gadd (gcut (gv 6) gO0 (gO1 (gv 7))) (gix (gv 2) (gmod (gadd (gv 8) (gmul gi (gv 9))) gi))) (gcut (gv 6) (gO1 (gv 7)) gO0))))) gA0))))
    s0))))))), body_ok h⟩
theorem sc_law_links : FnScope [("_law_purse_here" : Str), ("_law_calls_here" : Str), ("_law_way" : Str), ("_law_thick" : Str), ("_law_found" : Str), ("_law_k" : Str), ("_law_call" : Str), ("_law_j" : Str), ("_law_mate" : Str), ("_law_lot" : Str), ("_law_near" : Str), ("_law_back" : Str)] [("_law_purse_here" : Str), ("_law_calls_here" : Str)] (defScope s_law_links) := ⟨rfl, rfl, rfl, by decide +kernel, rfl, by decide +kernel, by decide +kernel⟩
theorem ok_law_links (T : TX K mg) : FnG P w K mg base CX0 2 T.a_law_links T.fd_law_links [("_law_purse_here" : Str), ("_law_calls_here" : Str)] (spF (ck T) K04.f_law_links) := by
  refine funD_okG T.fn_law_links sc_law_links (fun vs H Q E h => spF_len h) (fun cdv A outer s H vs Q E hr gd0 h => ?_)
  have nd := sc_law_links.nd
  have gd : (A.deeper (envOfC ("_law_links" : Str) (defScope s_law_links) s.heap.objs.size T.a_law_links cdv)).guards = some [] := gd0
  have hu0 := hr.units0
  have hu1 : (A.deeper (envOfC ("_law_links" : Str) (defScope s_law_links) s.heap.objs.size T.a_law_links cdv)).units + 1 < cLine := by have := hr.un; omega
  have hu62 : (A.deeper (envOfC ("_law_links" : Str) (defScope s_law_links) s.heap.objs.size T.a_law_links cdv)).units + 62 < cLine := by have := hr.un; omega
  have hu64 : (A.deeper (envOfC ("_law_links" : Str) (defScope s_law_links) s.heap.objs.size T.a_law_links cdv)).units + 64 < cLine := by have := hr.un; omega
  have hu65 : (A.deeper (envOfC ("_law_links" : Str) (defScope s_law_links) s.heap.objs.size T.a_law_links cdv)).units + 65 < cLine := by have := hr.un; omega
  exact ⟨tS (ck T) (fun _ => E) K04.b_law_links, (s1 (spar3 2 3 4 nd (gMd (gcall (bd_law_take T) (ok_law_take T) (hr.mono (by decide)) gd .nil rpl_nil T.mg_law_take T.fn_law_take.kp (len_r (len_d len_nil)) (gRr 0 (gvar 0) (gRd gi gR0))) (gMd (gadd gi (gcall (bd_law_take T) (ok_law_take T) (hr.mono (by decide)) gd .nil rpl_nil T.mg_law_take T.fn_law_take.kp (len_r (len_d len_nil)) (gRr 0 (gvar 0) (gRd gi gR0)))) (gMf (gnewL (glst gA0)) gM0))))
    (s1 (sfor PassesOwn.never (ien T.b_enumerate (gv 1)) (ttup (tg1 (tn 5 nd) (tg1 (tn 6 nd) tg0))) (s1 (sfor PassesOwn.never (ien T.b_enumerate (gv 1)) (ttup (tg1 (tn 7 nd) (tg1 (tn 8 nd) tg0))) (s1 (spar2 9 10 nd (gMd (gandD (gcmp kgt (gv 2) gi) (dl_one (gcmp klt (gcall (bd_law_take T) (ok_law_take T) (hr.mono (by decide)) gd .nil rpl_nil T.mg_law_take T.fn_law_take.kp (len_r (len_d len_nil)) (gRr 0 (gvar 0) (gRd gi gR0))) (gv 3)))) (gMd (gcmp (keq hu64) (gmod (gadd (gv 5) gi) (gblt blen T.b_len vb_len (gA1 (gv 1) gA0))) (gv 7)) gM0)))
    (s1 (sset 11 nd (gorD (gv 10) (dl_one (gcmp (keq hu64) (gmod (gadd (gv 7) gi) (gblt blen T.b_len vb_len (gA1 (gv 1) gA0))) (gv 5)))))
    (s1 (sif (gvalT (gix (gheld (glst (gA1 gb (gA1 (gv 10) (gA1 (gv 11) (gA1 (gcmp (keq hu64) (gv 5) (gv 7)) (gA1 gb (gA1 (gv 9) (gA1 (gv 9) (gA1 (gorD (gv 10) (dl_one (gv 9))) gA0)))))))))) (gv 2))) (s1 (sapp 4 (gvar 4) (gtup (gA1 (gv 6) (gA1 (gv 8) gA0))))
    s0) s0)
    s0))))
    s0))
    (s1 (sret (gv 4))
    s0))), body_ok h⟩
theorem sc_Web_eq : FnScope [("self" : Str), ("other" : Str)] [("self" : Str), ("other" : Str)] (defScope s_Web_eq) := ⟨rfl, rfl, rfl, by decide +kernel, rfl, by decide +kernel, by decide +kernel⟩
theorem ok_Web_eq (T : TX K mg) : FnG P w K mg base CX0 1 T.a_Web_eq T.fd_Web_eq [("self" : Str), ("other" : Str)] (spF (ck T) K04.f_Web_eq) := by
  refine funD_okG T.fn_Web_eq sc_Web_eq (fun vs H Q E h => spF_len h) (fun cdv A outer s H vs Q E hr gd0 h => ?_)
  have nd := sc_Web_eq.nd
  have gd : (A.deeper (envOfC ("Web.__eq__" : Str) (defScope s_Web_eq) s.heap.objs.size T.a_Web_eq cdv)).guards = some [] := gd0
  have hu0 := hr.units0
  have hu1 : (A.deeper (envOfC ("Web.__eq__" : Str) (defScope s_Web_eq) s.heap.objs.size T.a_Web_eq cdv)).units + 1 < cLine := by have := hr.un; omega
  have hu62 : (A.deeper (envOfC ("Web.__eq__" : Str) (defScope s_Web_eq) s.heap.objs.size T.a_Web_eq cdv)).units + 62 < cLine := by have := hr.un; omega
  have hu64 : (A.deeper (envOfC ("Web.__eq__" : Str) (defScope s_Web_eq) s.heap.objs.size T.a_Web_eq cdv)).units + 64 < cLine := by have := hr.un; omega
  have hu65 : (A.deeper (envOfC ("Web.__eq__" : Str) (defScope s_Web_eq) s.heap.objs.size T.a_Web_eq cdv)).units + 65 < cLine := by have := hr.un; omega
  exact ⟨tS (ck T) (fun _ => E) K04.b_Web_eq, (s1 (sret (gandD (gisC T.b_isinstance rfl T.mg_Web T.cm_Web ⟨T.co_Web, T.ki_Web⟩ (gv 1)) (gandD (gcmp (keq hu64) (gfld (T.ok_Web_bells) (gv 0)) (gfld (T.ok_Web_bells) (gv 1))) (dl_one (gcmp (keq hu64) (gfld (T.ok_Web_wakes) (gv 0)) (gfld (T.ok_Web_wakes) (gv 1)))))))
    s0), body_ok h⟩
theorem sc_check_bell : FnScope [("web" : Str), ("name" : Str)] [("web" : Str), ("name" : Str)] (defScope s_check_bell) := ⟨rfl, rfl, rfl, by decide +kernel, rfl, by decide +kernel, by decide +kernel⟩
theorem ok_check_bell (T : TX K mg) : FnG P w K mg base CX0 1 T.a_check_bell T.fd_check_bell [("web" : Str), ("name" : Str)] (spF (ck T) K04.f_check_bell) := by
  refine funD_okG T.fn_check_bell sc_check_bell (fun vs H Q E h => spF_len h) (fun cdv A outer s H vs Q E hr gd0 h => ?_)
  have nd := sc_check_bell.nd
  have gd : (A.deeper (envOfC ("check_bell" : Str) (defScope s_check_bell) s.heap.objs.size T.a_check_bell cdv)).guards = some [] := gd0
  have hu0 := hr.units0
  have hu1 : (A.deeper (envOfC ("check_bell" : Str) (defScope s_check_bell) s.heap.objs.size T.a_check_bell cdv)).units + 1 < cLine := by have := hr.un; omega
  have hu62 : (A.deeper (envOfC ("check_bell" : Str) (defScope s_check_bell) s.heap.objs.size T.a_check_bell cdv)).units + 62 < cLine := by have := hr.un; omega
  have hu64 : (A.deeper (envOfC ("check_bell" : Str) (defScope s_check_bell) s.heap.objs.size T.a_check_bell cdv)).units + 64 < cLine := by have := hr.un; omega
  have hu65 : (A.deeper (envOfC ("check_bell" : Str) (defScope s_check_bell) s.heap.objs.size T.a_check_bell cdv)).units + 65 < cLine := by have := hr.un; omega
  exact ⟨tS (ck T) (fun _ => E) K04.b_check_bell, (s1 (sif ((gorW (gnotT (gvalT (gisT T.b_isinstance rfl T.b_str vb_str T.kt_str (gv 1)))) (pw_or1 (gcmpT (knin hu65) (gv 1) (gfld (T.ok_Web_bells) (gv 0)))))).pt (s1 sraise
    s0) s0)
    s0), body_ok h⟩
theorem sc_Web_woken : FnScope [("self" : Str), ("name" : Str), ("one" : Str), ("other" : Str)] [("self" : Str), ("name" : Str)] (defScope s_Web_woken) := ⟨rfl, rfl, rfl, by decide +kernel, rfl, by decide +kernel, by decide +kernel⟩
theorem ok_Web_woken (T : TX K mg) : FnG P w K mg base CX0 2 T.a_Web_woken T.fd_Web_woken [("self" : Str), ("name" : Str)] (spF (ck T) K04.f_Web_woken) := by
  refine funD_okG T.fn_Web_woken sc_Web_woken (fun vs H Q E h => spF_len h) (fun cdv A outer s H vs Q E hr gd0 h => ?_)
  have nd := sc_Web_woken.nd
  have gd : (A.deeper (envOfC ("Web.woken" : Str) (defScope s_Web_woken) s.heap.objs.size T.a_Web_woken cdv)).guards = some [] := gd0
  have hu0 := hr.units0
  have hu1 : (A.deeper (envOfC ("Web.woken" : Str) (defScope s_Web_woken) s.heap.objs.size T.a_Web_woken cdv)).units + 1 < cLine := by have := hr.un; omega
  have hu62 : (A.deeper (envOfC ("Web.woken" : Str) (defScope s_Web_woken) s.heap.objs.size T.a_Web_woken cdv)).units + 62 < cLine := by have := hr.un; omega
  have hu64 : (A.deeper (envOfC ("Web.woken" : Str) (defScope s_Web_woken) s.heap.objs.size T.a_Web_woken cdv)).units + 64 < cLine := by have := hr.un; omega
  have hu65 : (A.deeper (envOfC ("Web.woken" : Str) (defScope s_Web_woken) s.heap.objs.size T.a_Web_woken cdv)).units + 65 < cLine := by have := hr.un; omega
  exact ⟨tS (ck T) (fun _ => E) K04.b_Web_woken, (s1 (sdrop (gcall (bd_check_bell T) (ok_check_bell T) (hr.mono (by decide)) gd .nil rpl_nil T.mg_check_bell T.fn_check_bell.kp (len_d (len_d len_nil)) (gRd (gv 0) (gRd (gv 1) gR0))))
    (s1 (sret (gty btuple T.b_tuple vb_tuple (gA1 (gheld (gcomp [(("one" : Str), 2), (("other" : Str), 3)] nd (dl_itA (gfld (T.ok_Web_wakes) (gv 0))) (by kernel_rfl) (fun _ _ _ _ _ => (ttup (tg1 (tn 2 nd) (tg1 (tn 3 nd) tg0)))) (fun _ _ _ _ _ => (gtest1 (gcmpT (keq hu64) (gv 2) (gv 1)))) (fun _ _ _ _ _ => (gv 3)))) gA0)))
    s0)), body_ok h⟩
theorem sc_Web_str : FnScope [("self" : Str), ("rows" : Str), ("name" : Str), ("others" : Str)] [("self" : Str)] (defScope s_Web_str) := ⟨rfl, rfl, rfl, by decide +kernel, rfl, by decide +kernel, by decide +kernel⟩
theorem ok_Web_str (T : TX K mg) : FnG P w K mg base CX0 3 T.a_Web_str T.fd_Web_str [("self" : Str)] (spF (ck T) K05.f_Web_str) := by
  refine funD_okG T.fn_Web_str sc_Web_str (fun vs H Q E h => spF_len h) (fun cdv A outer s H vs Q E hr gd0 h => ?_)
  have nd := sc_Web_str.nd
  have gd : (A.deeper (envOfC ("Web.__str__" : Str) (defScope s_Web_str) s.heap.objs.size T.a_Web_str cdv)).guards = some [] := gd0
  have hu0 := hr.units0
  have hu1 : (A.deeper (envOfC ("Web.__str__" : Str) (defScope s_Web_str) s.heap.objs.size T.a_Web_str cdv)).units + 1 < cLine := by have := hr.un; omega
  have hu62 : (A.deeper (envOfC ("Web.__str__" : Str) (defScope s_Web_str) s.heap.objs.size T.a_Web_str cdv)).units + 62 < cLine := by have := hr.un; omega
  have hu64 : (A.deeper (envOfC ("Web.__str__" : Str) (defScope s_Web_str) s.heap.objs.size T.a_Web_str cdv)).units + 64 < cLine := by have := hr.un; omega
  have hu65 : (A.deeper (envOfC ("Web.__str__" : Str) (defScope s_Web_str) s.heap.objs.size T.a_Web_str cdv)).units + 65 < cLine := by have := hr.un; omega
  exact ⟨tS (ck T) (fun _ => E) K05.b_Web_str, (s1 (ssetO 1 nd (glst gA0))
    (s1 (sfor PassesOwn.never (dl_itA (gfld (T.ok_Web_bells) (gv 0))) (tn 2 nd) (s1 (sset 3 nd (gmeth (bd_Web_woken T) (ok_Web_woken T) (hr.mono (by decide)) gd .nil rpl_nil T.cm_Web T.cl_Web T.me_Web_woken (len_d len_nil) (gv 0) (gRd (gv 2) gR0)))
    (s1 (sapp 1 (gvar 1) (gif (gcmpT (kne hu64) (gv 3) (gtup gA0)) (gjoin gs (gadd (gheld (glst (gA1 (gv 2) (gA1 gs gA0)))) (gheld (glist T.b_list vb_list (gA1 (gv 3) gA0))))) (gv 2)))
    s0)))
    (s1 (sret (gjoin gs (gv 1)))
    s0))), body_ok h⟩
theorem sc_law_text : FnScope [("_law_calls_here" : Str), ("_law_links_here" : Str), ("_law_rows" : Str), ("_law_call" : Str), ("_law_woken" : Str), ("_law_pair" : Str)] [("_law_calls_here" : Str), ("_law_links_here" : Str)] (defScope s_law_text) := ⟨rfl, rfl, rfl, by decide +kernel, rfl, by decide +kernel, by decide +kernel⟩
theorem ok_law_text (T : TX K mg) : FnG P w K mg base CX0 1 T.a_law_text T.fd_law_text [("_law_calls_here" : Str), ("_law_links_here" : Str)] (spF (ck T) K05.f_law_text) := by
  refine funD_okG T.fn_law_text sc_law_text (fun vs H Q E h => spF_len h) (fun cdv A outer s H vs Q E hr gd0 h => ?_)
  have nd := sc_law_text.nd
  have gd : (A.deeper (envOfC ("_law_text" : Str) (defScope s_law_text) s.heap.objs.size T.a_law_text cdv)).guards = some [] := gd0
  have hu0 := hr.units0
  have hu1 : (A.deeper (envOfC ("_law_text" : Str) (defScope s_law_text) s.heap.objs.size T.a_law_text cdv)).units + 1 < cLine := by have := hr.un; omega
  have hu62 : (A.deeper (envOfC ("_law_text" : Str) (defScope s_law_text) s.heap.objs.size T.a_law_text cdv)).units + 62 < cLine := by have := hr.un; omega
  have hu64 : (A.deeper (envOfC ("_law_text" : Str) (defScope s_law_text) s.heap.objs.size T.a_law_text cdv)).units + 64 < cLine := by have := hr.un; omega
  have hu65 : (A.deeper (envOfC ("_law_text" : Str) (defScope s_law_text) s.heap.objs.size T.a_law_text cdv)).units + 65 < cLine := by have := hr.un; omega
  exact ⟨tS (ck T) (fun _ => E) K05.b_law_text, (s1 (ssetO 2 nd (glst gA0))
    (s1 (sfor PassesOwn.never (dl_itA (gv 0)) (tn 3 nd) (s1 (ssetLc 4 [(("_law_pair" : Str), 5)] nd (dl_itA (gv 1)) (by kernel_rfl) (fun _ _ _ _ _ => (tn 5 nd)) (fun _ _ _ _ _ => (gtest1 (gcmpT (keq hu64) (gix (gv 5) gi) (gv 3)))) (fun _ _ _ _ _ => (gix (gv 5) gi)))
    (s1 (sapp 2 (gvar 2) (gjoin gs (gadd (gadd (gheld (glst (gA1 (gv 3) gA0))) (gmul (gheld (glst (gA1 gs gA0))) (gty bint T.b_int vb_int (gA1 (gcmp (kne hu64) (gv 4) (gheld (glst gA0))) gA0)))) (gv 4))))
    s0)))
    (s1 (sret (gjoin gs (gv 2)))
    s0))), body_ok h⟩
theorem sc_is_name : FnScope [("thing" : Str), ("sign" : Str)] [("thing" : Str)] (defScope s_is_name) := ⟨rfl, rfl, rfl, by decide +kernel, rfl, by decide +kernel, by decide +kernel⟩
theorem ok_is_name (T : TX K mg) : FnG P w K mg base CX0 1 T.a_is_name T.fd_is_name [("thing" : Str)] (spF (ck T) K04.f_is_name) := by
  refine funD_okG T.fn_is_name sc_is_name (fun vs H Q E h => spF_len h) (fun cdv A outer s H vs Q E hr gd0 h => ?_)
  have nd := sc_is_name.nd
  have gd : (A.deeper (envOfC ("is_name" : Str) (defScope s_is_name) s.heap.objs.size T.a_is_name cdv)).guards = some [] := gd0
  have hu0 := hr.units0
  have hu1 : (A.deeper (envOfC ("is_name" : Str) (defScope s_is_name) s.heap.objs.size T.a_is_name cdv)).units + 1 < cLine := by have := hr.un; omega
  have hu62 : (A.deeper (envOfC ("is_name" : Str) (defScope s_is_name) s.heap.objs.size T.a_is_name cdv)).units + 62 < cLine := by have := hr.un; omega
  have hu64 : (A.deeper (envOfC ("is_name" : Str) (defScope s_is_name) s.heap.objs.size T.a_is_name cdv)).units + 64 < cLine := by have := hr.un; omega
  have hu65 : (A.deeper (envOfC ("is_name" : Str) (defScope s_is_name) s.heap.objs.size T.a_is_name cdv)).units + 65 < cLine := by have := hr.un; omega
  exact ⟨tS (ck T) (fun _ => E) K04.b_is_name, (s1 (sif ((gorW (gnotT (gvalT (gisT T.b_isinstance rfl T.b_str vb_str T.kt_str (gv 0)))) (pw_or1 (gnotT (gchainT kle kle gi (gblt blen T.b_len vb_len (gA1 (gv 0) gA0)) (gGi T.g_MOST_LETTERS)))))).pt (s1 (sret gb)
    s0) s0)
    (s1 (sret (gblt ball T.b_all vb_all (gA1 (gheld (gcomp [(("sign" : Str), 1)] nd (dl_itA (gv 0)) (by kernel_rfl) (fun _ _ _ _ _ => (tn 1 nd)) (fun _ _ _ _ _ => gyes) (fun _ _ _ _ _ => (gcmp (kin hu65) (gv 1) (gGs T.g_LETTERS))))) gA0)))
    s0)), body_ok h⟩
theorem sc_check_bells : FnScope [("bells" : Str), ("number" : Str), ("name" : Str)] [("bells" : Str)] (defScope s_check_bells) := ⟨rfl, rfl, rfl, by decide +kernel, rfl, by decide +kernel, by decide +kernel⟩
theorem ok_check_bells (T : TX K mg) : FnG P w K mg base CX0 2 T.a_check_bells T.fd_check_bells [("bells" : Str)] (spF (ck T) K04.f_check_bells) := by
  refine funD_okG T.fn_check_bells sc_check_bells (fun vs H Q E h => spF_len h) (fun cdv A outer s H vs Q E hr gd0 h => ?_)
  have nd := sc_check_bells.nd
  have gd : (A.deeper (envOfC ("check_bells" : Str) (defScope s_check_bells) s.heap.objs.size T.a_check_bells cdv)).guards = some [] := gd0
  have hu0 := hr.units0
  have hu1 : (A.deeper (envOfC ("check_bells" : Str) (defScope s_check_bells) s.heap.objs.size T.a_check_bells cdv)).units + 1 < cLine := by have := hr.un; omega
  have hu62 : (A.deeper (envOfC ("check_bells" : Str) (defScope s_check_bells) s.heap.objs.size T.a_check_bells cdv)).units + 62 < cLine := by have := hr.un; omega
  have hu64 : (A.deeper (envOfC ("check_bells" : Str) (defScope s_check_bells) s.heap.objs.size T.a_check_bells cdv)).units + 64 < cLine := by have := hr.un; omega
  have hu65 : (A.deeper (envOfC ("check_bells" : Str) (defScope s_check_bells) s.heap.objs.size T.a_check_bells cdv)).units + 65 < cLine := by have := hr.un; omega
  exact ⟨tS (ck T) (fun _ => E) K04.b_check_bells, (s1 (sif ((gorW (gnotT (gvalT (gisT T.b_isinstance rfl T.b_tuple vb_tuple T.kt_tuple (gv 0)))) (pw_or1 (gnotT (gchainT kle kle gi (gblt blen T.b_len vb_len (gA1 (gv 0) gA0)) (gGi T.g_MOST_BELLS)))))).pt (s1 sraise
    s0) s0)
    (s1 (sfor PassesOwn.never (ien T.b_enumerate (gv 0)) (ttup (tg1 (tn 1 nd) (tg1 (tn 2 nd) tg0))) (s1 (sif ((gorW (gnotT (gvalT (gcall (bd_is_name T) (ok_is_name T) (hr.mono (by decide)) gd .nil rpl_nil T.mg_is_name T.fn_is_name.kp (len_d len_nil) (gRd (gv 2) gR0)))) (pw_or1 ((gandW (gcmpT kgt (gv 1) gi) (pw_and1 (gcmpT (kleA hu0) (gv 2) (gix (gv 0) (gsub (gv 1) gi)))))).pt))).pt (s1 sraise
    s0) s0)
    s0))
    s0)), body_ok h⟩
theorem sc_is_wake : FnScope [("thing" : Str), ("bells" : Str), ("name" : Str)] [("thing" : Str), ("bells" : Str)] (defScope s_is_wake) := ⟨rfl, rfl, rfl, by decide +kernel, rfl, by decide +kernel, by decide +kernel⟩
theorem ok_is_wake (T : TX K mg) : FnG P w K mg base CX0 2 T.a_is_wake T.fd_is_wake [("thing" : Str), ("bells" : Str)] (spF (ck T) K04.f_is_wake) := by
  refine funD_okG T.fn_is_wake sc_is_wake (fun vs H Q E h => spF_len h) (fun cdv A outer s H vs Q E hr gd0 h => ?_)
  have nd := sc_is_wake.nd
  have gd : (A.deeper (envOfC ("is_wake" : Str) (defScope s_is_wake) s.heap.objs.size T.a_is_wake cdv)).guards = some [] := gd0
  have hu0 := hr.units0
  have hu1 : (A.deeper (envOfC ("is_wake" : Str) (defScope s_is_wake) s.heap.objs.size T.a_is_wake cdv)).units + 1 < cLine := by have := hr.un; omega
  have hu62 : (A.deeper (envOfC ("is_wake" : Str) (defScope s_is_wake) s.heap.objs.size T.a_is_wake cdv)).units + 62 < cLine := by have := hr.un; omega
  have hu64 : (A.deeper (envOfC ("is_wake" : Str) (defScope s_is_wake) s.heap.objs.size T.a_is_wake cdv)).units + 64 < cLine := by have := hr.un; omega
  have hu65 : (A.deeper (envOfC ("is_wake" : Str) (defScope s_is_wake) s.heap.objs.size T.a_is_wake cdv)).units + 65 < cLine := by have := hr.un; omega
  exact ⟨tS (ck T) (fun _ => E) K04.b_is_wake, (s1 (sif ((gorW (gnotT (gvalT (gisT T.b_isinstance rfl T.b_tuple vb_tuple T.kt_tuple (gv 0)))) (pw_or1 (gcmpT (kne hu64) (gblt blen T.b_len vb_len (gA1 (gv 0) gA0)) gi)))).pt (s1 (sret gb)
    s0) s0)
    (s1 (sret (gblt ball T.b_all vb_all (gA1 (gheld (gcomp [(("name" : Str), 2)] nd (dl_itA (gv 0)) (by kernel_rfl) (fun _ _ _ _ _ => (tn 2 nd)) (fun _ _ _ _ _ => gyes) (fun _ _ _ _ _ => (gandD (gcall (bd_is_name T) (ok_is_name T) (hr.mono (by decide)) gd .nil rpl_nil T.mg_is_name T.fn_is_name.kp (len_d len_nil) (gRd (gv 2) gR0)) (dl_one (gcmp (kin hu65) (gv 2) (gv 1))))))) gA0)))
    s0)), body_ok h⟩
theorem sc_check_wakes : FnScope [("wakes" : Str), ("bells" : Str), ("number" : Str), ("wake" : Str)] [("wakes" : Str), ("bells" : Str)] (defScope s_check_wakes) := ⟨rfl, rfl, rfl, by decide +kernel, rfl, by decide +kernel, by decide +kernel⟩
theorem ok_check_wakes (T : TX K mg) : FnG P w K mg base CX0 3 T.a_check_wakes T.fd_check_wakes [("wakes" : Str), ("bells" : Str)] (spF (ck T) K04.f_check_wakes) := by
  refine funD_okG T.fn_check_wakes sc_check_wakes (fun vs H Q E h => spF_len h) (fun cdv A outer s H vs Q E hr gd0 h => ?_)
  have nd := sc_check_wakes.nd
  have gd : (A.deeper (envOfC ("check_wakes" : Str) (defScope s_check_wakes) s.heap.objs.size T.a_check_wakes cdv)).guards = some [] := gd0
  have hu0 := hr.units0
  have hu1 : (A.deeper (envOfC ("check_wakes" : Str) (defScope s_check_wakes) s.heap.objs.size T.a_check_wakes cdv)).units + 1 < cLine := by have := hr.un; omega
  have hu62 : (A.deeper (envOfC ("check_wakes" : Str) (defScope s_check_wakes) s.heap.objs.size T.a_check_wakes cdv)).units + 62 < cLine := by have := hr.un; omega
  have hu64 : (A.deeper (envOfC ("check_wakes" : Str) (defScope s_check_wakes) s.heap.objs.size T.a_check_wakes cdv)).units + 64 < cLine := by have := hr.un; omega
  have hu65 : (A.deeper (envOfC ("check_wakes" : Str) (defScope s_check_wakes) s.heap.objs.size T.a_check_wakes cdv)).units + 65 < cLine := by have := hr.un; omega
  exact ⟨tS (ck T) (fun _ => E) K04.b_check_wakes, (s1 (sif (gnotT (gvalT (gisT T.b_isinstance rfl T.b_tuple vb_tuple T.kt_tuple (gv 0)))) (s1 sraise
    s0) s0)
    (s1 (sfor PassesOwn.never (ien T.b_enumerate (gv 0)) (ttup (tg1 (tn 2 nd) (tg1 (tn 3 nd) tg0))) (s1 (sif ((gorW (gnotT (gvalT (gcall (bd_is_wake T) (ok_is_wake T) (hr.mono (by decide)) gd .nil rpl_nil T.mg_is_wake T.fn_is_wake.kp (len_d (len_d len_nil)) (gRd (gv 3) (gRd (gv 1) gR0))))) (pw_or1 ((gandW (gcmpT kgt (gv 2) gi) (pw_and1 (gcmpT (kleA hu0) (gv 3) (gix (gv 0) (gsub (gv 2) gi)))))).pt))).pt (s1 sraise
    s0) s0)
    s0))
    s0)), body_ok h⟩
theorem sc_Web_init : FnScope [("self" : Str), ("bells" : Str), ("wakes" : Str)] [("self" : Str), ("bells" : Str), ("wakes" : Str)] (defScope s_Web_init) := ⟨rfl, rfl, rfl, by decide +kernel, rfl, by decide +kernel, by decide +kernel⟩
theorem ok_Web_init (T : TX K mg) : FnG P w K mg base CX0 4 T.a_Web_init T.fd_Web_init [("self" : Str), ("bells" : Str), ("wakes" : Str)] (spI (ck T) T.C_Web K04.f_Web_init) := by
  refine funD_okG T.fn_Web_init sc_Web_init (fun vs H Q E h => spI_len h) (fun cdv A outer s H vs Q E hr gd0 h => ?_)
  have nd := sc_Web_init.nd
  have gd : (A.deeper (envOfC ("Web.__init__" : Str) (defScope s_Web_init) s.heap.objs.size T.a_Web_init cdv)).guards = some [] := gd0
  have hu0 := hr.units0
  have hu1 : (A.deeper (envOfC ("Web.__init__" : Str) (defScope s_Web_init) s.heap.objs.size T.a_Web_init cdv)).units + 1 < cLine := by have := hr.un; omega
  have hu62 : (A.deeper (envOfC ("Web.__init__" : Str) (defScope s_Web_init) s.heap.objs.size T.a_Web_init cdv)).units + 62 < cLine := by have := hr.un; omega
  have hu64 : (A.deeper (envOfC ("Web.__init__" : Str) (defScope s_Web_init) s.heap.objs.size T.a_Web_init cdv)).units + 64 < cLine := by have := hr.un; omega
  have hu65 : (A.deeper (envOfC ("Web.__init__" : Str) (defScope s_Web_init) s.heap.objs.size T.a_Web_init cdv)).units + 65 < cLine := by have := hr.un; omega
  exact ⟨tN (ck T) T.C_Web (fun _ => E) K04.b_Web_init, (n1 (ndo (gcall (bd_check_bells T) (ok_check_bells T) (hr.mono (by decide)) gd .nil rpl_nil T.mg_check_bells T.fn_check_bells.kp (len_d len_nil) (gRd (gv 1) gR0)))
    (n1 (ndo (gcall (bd_check_wakes T) (ok_check_wakes T) (hr.mono (by decide)) gd .nil rpl_nil T.mg_check_wakes T.fn_check_wakes.kp (len_d (len_d len_nil)) (gRd (gv 2) (gRd (gv 1) gR0))))
    (n1 (nfld ⟨T.cl_Web, T.na_Web_bells⟩ (gvar 0) (gv 1))
    (n1 (nfld ⟨T.cl_Web, T.na_Web_wakes⟩ (gvar 0) (gv 2))
    n0)))), bodyN_ok h⟩
theorem sc_law_web : FnScope [("_law_calls_here" : Str), ("_law_links_here" : Str)] [("_law_calls_here" : Str), ("_law_links_here" : Str)] (defScope s_law_web) := ⟨rfl, rfl, rfl, by decide +kernel, rfl, by decide +kernel, by decide +kernel⟩
theorem ok_law_web (T : TX K mg) : FnG P w K mg base CX0 6 T.a_law_web T.fd_law_web [("_law_calls_here" : Str), ("_law_links_here" : Str)] (spF (ck T) K04.f_law_web) := by
  refine funD_okG T.fn_law_web sc_law_web (fun vs H Q E h => spF_len h) (fun cdv A outer s H vs Q E hr gd0 h => ?_)
  have nd := sc_law_web.nd
  have gd : (A.deeper (envOfC ("_law_web" : Str) (defScope s_law_web) s.heap.objs.size T.a_law_web cdv)).guards = some [] := gd0
  have hu0 := hr.units0
  have hu1 : (A.deeper (envOfC ("_law_web" : Str) (defScope s_law_web) s.heap.objs.size T.a_law_web cdv)).units + 1 < cLine := by have := hr.un; omega
  have hu62 : (A.deeper (envOfC ("_law_web" : Str) (defScope s_law_web) s.heap.objs.size T.a_law_web cdv)).units + 62 < cLine := by have := hr.un; omega
  have hu64 : (A.deeper (envOfC ("_law_web" : Str) (defScope s_law_web) s.heap.objs.size T.a_law_web cdv)).units + 64 < cLine := by have := hr.un; omega
  have hu65 : (A.deeper (envOfC ("_law_web" : Str) (defScope s_law_web) s.heap.objs.size T.a_law_web cdv)).units + 65 < cLine := by have := hr.un; omega
  exact ⟨tS (ck T) (fun _ => E) K04.b_law_web, (s1 (sret (gmakeK T.mk_Web (kb_Web_init_2 T) (ok_Web_init T) (hr.mono (by decide)) gd T.cm_Web T.mg_Web (len_d len_nil) (len_d len_nil) (gRd (gty btuple T.b_tuple vb_tuple (gA1 (gv 0) gA0)) gR0) (tK_d (pk_cons (gty btuple T.b_tuple vb_tuple (gA1 (gv 1) gA0)) gK0))))
    s0), body_ok h⟩
theorem sc_read_row : FnScope [("row" : Str), ("words" : Str), ("bell" : Str), ("others" : Str), ("word" : Str), ("k" : Str)] [("row" : Str)] (defScope s_read_row) := ⟨rfl, rfl, rfl, by decide +kernel, rfl, by decide +kernel, by decide +kernel⟩
theorem ok_read_row (T : TX K mg) : FnG P w K mg base CX0 2 T.a_read_row T.fd_read_row [("row" : Str)] (spF (ck T) K05.f_read_row) := by
  refine funD_okG T.fn_read_row sc_read_row (fun vs H Q E h => spF_len h) (fun cdv A outer s H vs Q E hr gd0 h => ?_)
  have nd := sc_read_row.nd
  have gd : (A.deeper (envOfC ("read_row" : Str) (defScope s_read_row) s.heap.objs.size T.a_read_row cdv)).guards = some [] := gd0
  have hu0 := hr.units0
  have hu1 : (A.deeper (envOfC ("read_row" : Str) (defScope s_read_row) s.heap.objs.size T.a_read_row cdv)).units + 1 < cLine := by have := hr.un; omega
  have hu62 : (A.deeper (envOfC ("read_row" : Str) (defScope s_read_row) s.heap.objs.size T.a_read_row cdv)).units + 62 < cLine := by have := hr.un; omega
  have hu64 : (A.deeper (envOfC ("read_row" : Str) (defScope s_read_row) s.heap.objs.size T.a_read_row cdv)).units + 64 < cLine := by have := hr.un; omega
  have hu65 : (A.deeper (envOfC ("read_row" : Str) (defScope s_read_row) s.heap.objs.size T.a_read_row cdv)).units + 65 < cLine := by have := hr.un; omega
  exact ⟨tS (ck T) (fun _ => E) K05.b_read_row, (s1 (sset 1 nd (gsplit (gv 0) gs))
    (s1 (sparT (gN1 2 nd (gN1 3 nd gN0)) (gMd (gix (gv 1) gi) (gMd (gcut (gv 1) (gO1 gi) gO0) gM0)))
    (s1 (sif ((gandW (gcmpT kgt (gblt blen T.b_len vb_len (gA1 (gv 1) gA0)) gi) (pw_and1 ((gorW (gcmpT (kne hu64) (gix (gv 1) gi) gs) (pw_or1 (gcmpT (keq hu64) (gv 3) (gheld (glst gA0)))))).pt))).pt (s1 (sret gn)
    s0) s0)
    (s1 (sif (gnotT (gvalT (gblt ball T.b_all vb_all (gA1 (gheld (gcomp [(("word" : Str), 4)] nd (dl_itA (gadd (gheld (glst (gA1 (gv 2) gA0))) (gv 3))) (by kernel_rfl) (fun _ _ _ _ _ => (tn 4 nd)) (fun _ _ _ _ _ => gyes) (fun _ _ _ _ _ => (gcall (bd_is_name T) (ok_is_name T) (hr.mono (by decide)) gd .nil rpl_nil T.mg_is_name T.fn_is_name.kp (len_d len_nil) (gRd (gv 4) gR0))))) gA0)))) (s1 (sret gn)
    s0) s0)
    (s1 (sif (gnotT (gvalT (gblt ball T.b_all vb_all (gA1 (gheld (gcomp [(("k" : Str), 5)] nd (ir1 T.b_range (gsub (gblt blen T.b_len vb_len (gA1 (gv 3) gA0)) gi)) (by kernel_rfl) (fun _ _ _ _ _ => (tn 5 nd)) (fun _ _ _ _ _ => gyes) (fun _ _ _ _ _ => (gcmp klt (gixA hu1 (gv 3) (gv 5)) (gix (gv 3) (gadd (gv 5) gi)))))) gA0)))) (s1 (sret gn)
    s0) s0)
    (s1 (sret (gtup (gA1 (gv 2) (gA1 (gv 3) gA0))))
    s0)))))), body_ok h⟩
theorem sc_read_web : FnScope [("text" : Str), ("bells" : Str), ("wakes" : Str), ("rows" : Str), ("number" : Str), ("row" : Str), ("found" : Str), ("other" : Str), ("one" : Str)] [("text" : Str)] (defScope s_read_web) := ⟨rfl, rfl, rfl, by decide +kernel, rfl, by decide +kernel, by decide +kernel⟩
theorem ok_read_web (T : TX K mg) : FnG P w K mg base CX0 6 T.a_read_web T.fd_read_web [("text" : Str)] (spF (ck T) K05.f_read_web) := by
  refine funD_okG T.fn_read_web sc_read_web (fun vs H Q E h => spF_len h) (fun cdv A outer s H vs Q E hr gd0 h => ?_)
  have nd := sc_read_web.nd
  have gd : (A.deeper (envOfC ("read_web" : Str) (defScope s_read_web) s.heap.objs.size T.a_read_web cdv)).guards = some [] := gd0
  have hu0 := hr.units0
  have hu1 : (A.deeper (envOfC ("read_web" : Str) (defScope s_read_web) s.heap.objs.size T.a_read_web cdv)).units + 1 < cLine := by have := hr.un; omega
  have hu62 : (A.deeper (envOfC ("read_web" : Str) (defScope s_read_web) s.heap.objs.size T.a_read_web cdv)).units + 62 < cLine := by have := hr.un; omega
  have hu64 : (A.deeper (envOfC ("read_web" : Str) (defScope s_read_web) s.heap.objs.size T.a_read_web cdv)).units + 64 < cLine := by have := hr.un; omega
  have hu65 : (A.deeper (envOfC ("read_web" : Str) (defScope s_read_web) s.heap.objs.size T.a_read_web cdv)).units + 65 < cLine := by have := hr.un; omega
  exact ⟨tS (ck T) (fun _ => E) K05.b_read_web, (s1 (sif (gnotT (gvalT (gisT T.b_isinstance rfl T.b_str vb_str T.kt_str (gv 0)))) (s1 sraise
    s0) s0)
    (s1 (sparT (gN1 1 nd (gN1 2 nd gN0)) (gMf (gnewL (glst gA0)) (gMf (gnewL (glst gA0)) gM0)))
    (s1 (sset 3 nd (gsplit (gv 0) gs))
    (s1 (sfor PassesOwn.never (ien T.b_enumerate (gv 3)) (ttup (tg1 (tn 4 nd) (tg1 (tn 5 nd) tg0))) (s1 (sset 6 nd (gcall (bd_read_row T) (ok_read_row T) (hr.mono (by decide)) gd .nil rpl_nil T.mg_read_row T.fn_read_row.kp (len_d len_nil) (gRd (gv 5) gR0)))
    (s1 (sif ((gorW (gcmpT kis (gv 6) gn) (gorW (gcmpT kge (gv 4) (gGi T.g_MOST_BELLS)) (pw_or1 ((gandW (gownNilNT 1 hu64 (gvar 1) (gheld (glst gA0))) (pw_and1 (gcmpT (kleA hu0) (gix (gv 6) gi) (goix 1 (gvar 1) (gneg gi)))))).pt)))).pt (s1 sraise
    s0) s0)
    (s1 (sapp 1 (gvar 1) (gix (gv 6) gi))
    (s1 (sext 2 (gvar 2) (gheld (gcomp [(("other" : Str), 7)] nd (dl_itA (gix (gv 6) gi)) (by kernel_rfl) (fun _ _ _ _ _ => (tn 7 nd)) (fun _ _ _ _ _ => gyes) (fun _ _ _ _ _ => (gtup (gA1 (gix (gv 6) gi) (gA1 (gv 7) gA0)))))))
    s0)))))
    (s1 (sif (gnotT (gvalT (gblt ball T.b_all vb_all (gA1 (gheld (gcomp [(("one" : Str), 8), (("other" : Str), 7)] nd (dl_itA (gv 2)) (by kernel_rfl) (fun _ _ _ _ _ => (ttup (tg1 (tn 8 nd) (tg1 (tn 7 nd) tg0)))) (fun _ _ _ _ _ => gyes) (fun _ _ _ _ _ => (goin 1 hu65 (gv 7) (gvar 1))))) gA0)))) (s1 sraise
    s0) s0)
    (s1 (sret (gmakeK T.mk_Web (kb_Web_init_2 T) (ok_Web_init T) (hr.mono (by decide)) gd T.cm_Web T.mg_Web (len_d len_nil) (len_d len_nil) (gRd (gty btuple T.b_tuple vb_tuple (gA1 (gv 1) gA0)) gR0) (tK_d (pk_cons (gty btuple T.b_tuple vb_tuple (gA1 (gv 2) gA0)) gK0))))
    s0)))))), body_ok h⟩
theorem sc_law_read_right : FnScope [("_law_calls_here" : Str), ("_law_links_here" : Str), ("_law_said" : Str), ("_law_net" : Str), ("_law_told" : Str)] [("_law_calls_here" : Str), ("_law_links_here" : Str)] (defScope s_law_read_right) := ⟨rfl, rfl, rfl, by decide +kernel, rfl, by decide +kernel, by decide +kernel⟩
theorem ok_law_read_right (T : TX K mg) : FnG P w K mg base CX0 7 T.a_law_read_right T.fd_law_read_right [("_law_calls_here" : Str), ("_law_links_here" : Str)] (spF (ck T) K05.f_law_read_right) := by
  refine funD_okG T.fn_law_read_right sc_law_read_right (fun vs H Q E h => spF_len h) (fun cdv A outer s H vs Q E hr gd0 h => ?_)
  have nd := sc_law_read_right.nd
  have gd : (A.deeper (envOfC ("_law_read_right" : Str) (defScope s_law_read_right) s.heap.objs.size T.a_law_read_right cdv)).guards = some [] := gd0
  have hu0 := hr.units0
  have hu1 : (A.deeper (envOfC ("_law_read_right" : Str) (defScope s_law_read_right) s.heap.objs.size T.a_law_read_right cdv)).units + 1 < cLine := by have := hr.un; omega
  have hu62 : (A.deeper (envOfC ("_law_read_right" : Str) (defScope s_law_read_right) s.heap.objs.size T.a_law_read_right cdv)).units + 62 < cLine := by have := hr.un; omega
  have hu64 : (A.deeper (envOfC ("_law_read_right" : Str) (defScope s_law_read_right) s.heap.objs.size T.a_law_read_right cdv)).units + 64 < cLine := by have := hr.un; omega
  have hu65 : (A.deeper (envOfC ("_law_read_right" : Str) (defScope s_law_read_right) s.heap.objs.size T.a_law_read_right cdv)).units + 65 < cLine := by have := hr.un; omega
  exact ⟨tS (ck T) (fun _ => E) K05.b_law_read_right, (s1 (spar2 2 3 nd (gMd (gcall (bd_law_text T) (ok_law_text T) (hr.mono (by decide)) gd .nil rpl_nil T.mg_law_text T.fn_law_text.kp (len_d (len_d len_nil)) (gRd (gv 0) (gRd (gv 1) gR0))) (gMd (gcall (bd_law_web T) (ok_law_web T) (hr.mono (by decide)) gd .nil rpl_nil T.mg_law_web T.fn_law_web.kp (len_d (len_d len_nil)) (gRd (gv 0) (gRd (gv 1) gR0))) gM0)))
    (s1 (sfor PassesOwn.never (dl_itA (gheld (glst (gA1 (gcall (bd_read_web T) (ok_read_web T) (hr.mono (by decide)) gd .nil rpl_nil T.mg_read_web T.fn_read_web.kp (len_d len_nil) (gRd (gv 2) gR0)) (gA1 (gcallPK0 (arr_lay rp_non) (kp_read_web_0_text T) (ok_read_web T) (hr.mono (by decide)) gd T.mg_read_web T.fn_read_web.kp (len_d len_nil) (tK_d (pk_cons (gv 2) gK0))) (gA1 (gcall (bd_read_web T) (ok_read_web T) (hr.mono (by decide)) gd .nil rpl_nil T.mg_read_web T.fn_read_web.kp (len_d len_nil) (gRd (gstrO (ok_Web_str T) (hr.mono (by decide)) gd (bd_Web_str T) T.cm_Web T.me_Web_str.at_ T.me_Web_str.fn T.b_str vb_str (gA1 (gv 3) gA0)) gR0)) (gA1 (gcall (bd_read_web T) (ok_read_web T) (hr.mono (by decide)) gd .nil rpl_nil T.mg_read_web T.fn_read_web.kp (len_d len_nil) (gRd (gv 2) gR0)) gA0))))))) (tn 4 nd) (s1 (sif ((gorW (gnotT (gvalT (gisC T.b_isinstance rfl T.mg_Web T.cm_Web ⟨T.co_Web, T.ki_Web⟩ (gv 4)))) (pw_or1 (gcmpT (kne hu64) (gblt (brepr gd hu62) T.b_repr vb_repr (gA1 (gtup (gA1 (gfld (T.ok_Web_bells) (gv 4)) (gA1 (gfld (T.ok_Web_wakes) (gv 4)) gA0))) gA0)) (gblt (brepr gd hu62) T.b_repr vb_repr (gA1 (gtup (gA1 (gty btuple T.b_tuple vb_tuple (gA1 (gv 0) gA0)) (gA1 (gty btuple T.b_tuple vb_tuple (gA1 (gv 1) gA0)) gA0))) gA0)))))).pt (s1 (sret gb)
    s0) s0)
    (s1 (sif ((gorW (gcmpT (kne hu64) (gstrO (ok_Web_str T) (hr.mono (by decide)) gd (bd_Web_str T) T.cm_Web T.me_Web_str.at_ T.me_Web_str.fn T.b_str vb_str (gA1 (gv 4) gA0)) (gv 2)) (gorW (gnotT (gcmpT (keqA (E := L2.E0) T.cm_Web (op_eqA hu64) prim_eqB (op_ownEq (ok_Web_eq T) (hr.mono (by decide)) gd (bd_Web_eq T) pass00 T.eq_Web T.me_Web_eq.fn)) (gv 4) (gv 3))) (pw_or1 (gcmpT (keqA (E := L2.E0) T.cm_Web (op_neA hu64) prim_eqB (op_ownNe (ok_Web_eq T) (hr.mono (by decide)) gd (bd_Web_eq T) pass00 T.eq_Web T.me_Web_eq.fn T.ne_Web T.co_Web.hm)) (gv 4) (gv 3)))))).pt (s1 (sret gb)
    s0) s0)
    s0)))
    (s1 (sret (gcmp (keq hu64) (gstrO (ok_Web_str T) (hr.mono (by decide)) gd (bd_Web_str T) T.cm_Web T.me_Web_str.at_ T.me_Web_str.fn T.b_str vb_str (gA1 (gv 3) gA0)) (gv 2)))
    s0))), body_ok h⟩
theorem sc_law_size : FnScope [("_law_purse_here" : Str), ("_law_upto" : Str)] [("_law_purse_here" : Str), ("_law_upto" : Str)] (defScope s_law_size) := ⟨rfl, rfl, rfl, by decide +kernel, rfl, by decide +kernel, by decide +kernel⟩
theorem ok_law_size (T : TX K mg) : FnG P w K mg base CX0 2 T.a_law_size T.fd_law_size [("_law_purse_here" : Str), ("_law_upto" : Str)] (spF (ck T) K04.f_law_size) := by
  refine funD_okG T.fn_law_size sc_law_size (fun vs H Q E h => spF_len h) (fun cdv A outer s H vs Q E hr gd0 h => ?_)
  have nd := sc_law_size.nd
  have gd : (A.deeper (envOfC ("_law_size" : Str) (defScope s_law_size) s.heap.objs.size T.a_law_size cdv)).guards = some [] := gd0
  have hu0 := hr.units0
  have hu1 : (A.deeper (envOfC ("_law_size" : Str) (defScope s_law_size) s.heap.objs.size T.a_law_size cdv)).units + 1 < cLine := by have := hr.un; omega
  have hu62 : (A.deeper (envOfC ("_law_size" : Str) (defScope s_law_size) s.heap.objs.size T.a_law_size cdv)).units + 62 < cLine := by have := hr.un; omega
  have hu64 : (A.deeper (envOfC ("_law_size" : Str) (defScope s_law_size) s.heap.objs.size T.a_law_size cdv)).units + 64 < cLine := by have := hr.un; omega
  have hu65 : (A.deeper (envOfC ("_law_size" : Str) (defScope s_law_size) s.heap.objs.size T.a_law_size cdv)).units + 65 < cLine := by have := hr.un; omega
  exact ⟨tS (ck T) (fun _ => E) K04.b_law_size, (s1 (sret (gix (gheld (glst (gA1 (gadd gi (gcall (bd_law_take T) (ok_law_take T) (hr.mono (by decide)) gd .nil rpl_nil T.mg_law_take T.fn_law_take.kp (len_r (len_d len_nil)) (gRr 0 (gvar 0) (gRd (gv 1) gR0)))) (gA1 gi gA0)))) (gty bint T.b_int vb_int (gA1 (gcmp (keq hu64) (gcall (bd_law_take T) (ok_law_take T) (hr.mono (by decide)) gd .nil rpl_nil T.mg_law_take T.fn_law_take.kp (len_r (len_d len_nil)) (gRr 0 (gvar 0) (gRd gi gR0))) gi) gA0))))
    s0), body_ok h⟩
theorem sc_law_right : FnScope [("_law_purse_here" : Str), ("_law_calls_here" : Str), ("_law_links_here" : Str), ("_law_some" : Str), ("_law_call" : Str), ("_law_pair" : Str)] [("_law_purse_here" : Str)] (defScope s_law_right) := ⟨rfl, rfl, rfl, by decide +kernel, rfl, by decide +kernel, by decide +kernel⟩
theorem ok_law_right (T : TX K mg) : FnG P w K mg base CX0 8 T.a_law_right T.fd_law_right [("_law_purse_here" : Str)] (spF (ck T) K05.f_law_right) := by
  refine funD_okG T.fn_law_right sc_law_right (fun vs H Q E h => spF_len h) (fun cdv A outer s H vs Q E hr gd0 h => ?_)
  have nd := sc_law_right.nd
  have gd : (A.deeper (envOfC ("_law_right" : Str) (defScope s_law_right) s.heap.objs.size T.a_law_right cdv)).guards = some [] := gd0
  have hu0 := hr.units0
  have hu1 : (A.deeper (envOfC ("_law_right" : Str) (defScope s_law_right) s.heap.objs.size T.a_law_right cdv)).units + 1 < cLine := by have := hr.un; omega
  have hu62 : (A.deeper (envOfC ("_law_right" : Str) (defScope s_law_right) s.heap.objs.size T.a_law_right cdv)).units + 62 < cLine := by have := hr.un; omega
  have hu64 : (A.deeper (envOfC ("_law_right" : Str) (defScope s_law_right) s.heap.objs.size T.a_law_right cdv)).units + 64 < cLine := by have := hr.un; omega
  have hu65 : (A.deeper (envOfC ("_law_right" : Str) (defScope s_law_right) s.heap.objs.size T.a_law_right cdv)).units + 65 < cLine := by have := hr.un; omega
  exact ⟨tS (ck T) (fun _ => E) K05.b_law_right, (s1 (sset 1 nd (gcall (bd_law_calls T) (ok_law_calls T) (hr.mono (by decide)) gd .nil rpl_nil T.mg_law_calls T.fn_law_calls.kp (len_r (len_d len_nil)) (gRr 0 (gvar 0) (gRd (gcall (bd_law_size T) (ok_law_size T) (hr.mono (by decide)) gd .nil rpl_nil T.mg_law_size T.fn_law_size.kp (len_r (len_d len_nil)) (gRr 0 (gvar 0) (gRd gi gR0))) gR0))))
    (s1 (sset 2 nd (gcall (bd_law_links T) (ok_law_links T) (hr.mono (by decide)) gd .nil rpl_nil T.mg_law_links T.fn_law_links.kp (len_r (len_d len_nil)) (gRr 0 (gvar 0) (gRd (gv 1) gR0))))
    (s1 (sif (gnotT (gvalT (gcall (bd_law_read_right T) (ok_law_read_right T) (hr.mono (by decide)) gd .nil rpl_nil T.mg_law_read_right T.fn_law_read_right.kp (len_d (len_d len_nil)) (gRd (gv 1) (gRd (gv 2) gR0))))) (s1 (sret gb)
    s0) s0)
    (s1 (sset 3 nd (gheld (gcomp [(("_law_call" : Str), 4)] nd (dl_itA (gv 1)) (by kernel_rfl) (fun _ _ _ _ _ => (tn 4 nd)) (fun _ _ _ _ _ => (gtest1 (gcmpT kgt (gcall (bd_law_take T) (ok_law_take T) (hr.mono (by decide)) gd .nil rpl_nil T.mg_law_take T.fn_law_take.kp (len_r (len_d len_nil)) (gRr 0 (gvar 0) (gRd gi gR0))) gi))) (fun _ _ _ _ _ => (gv 4)))))
    (s1 (sif (gcmpT (keq hu64) (gv 3) (gheld (glst gA0))) (s1 (sset 3 nd (gcut (gv 1) (gO1 (gneg gi)) gO0))
    s0) s0)
    (s1 (sret (gcall (bd_law_read_right T) (ok_law_read_right T) (hr.mono (by decide)) gd .nil rpl_nil T.mg_law_read_right T.fn_law_read_right.kp (len_d (len_d len_nil)) (gRd (gv 3) (gRd (gheld (gcomp [(("_law_pair" : Str), 5)] nd (dl_itA (gv 2)) (by kernel_rfl) (fun _ _ _ _ _ => (tn 5 nd)) (fun _ _ _ _ _ => (gtest1 ((gandW (gcmpT (kin hu65) (gix (gv 5) gi) (gv 3)) (pw_and1 (gcmpT (kin hu65) (gix (gv 5) gi) (gv 3))))).pt)) (fun _ _ _ _ _ => (gv 5)))) gR0))))
    s0)))))), body_ok h⟩
theorem sc_law : FnScope [("_law_script" : Str), ("_law_k" : Str)] [("_law_script" : Str)] (defScope s_law) := ⟨rfl, rfl, rfl, by decide +kernel, rfl, by decide +kernel, by decide +kernel⟩
theorem ok_law (T : TX K mg) : FnG P w K mg base CX0 9 T.a_law T.fd_law [("_law_script" : Str)] (spF (ck T) K05.f_law) := by
  refine funD_okG T.fn_law sc_law (fun vs H Q E h => spF_len h) (fun cdv A outer s H vs Q E hr gd0 h => ?_)
  have nd := sc_law.nd
  have gd : (A.deeper (envOfC ("law" : Str) (defScope s_law) s.heap.objs.size T.a_law cdv)).guards = some [] := gd0
  have hu0 := hr.units0
  have hu1 : (A.deeper (envOfC ("law" : Str) (defScope s_law) s.heap.objs.size T.a_law cdv)).units + 1 < cLine := by have := hr.un; omega
  have hu62 : (A.deeper (envOfC ("law" : Str) (defScope s_law) s.heap.objs.size T.a_law cdv)).units + 62 < cLine := by have := hr.un; omega
  have hu64 : (A.deeper (envOfC ("law" : Str) (defScope s_law) s.heap.objs.size T.a_law cdv)).units + 64 < cLine := by have := hr.un; omega
  have hu65 : (A.deeper (envOfC ("law" : Str) (defScope s_law) s.heap.objs.size T.a_law cdv)).units + 65 < cLine := by have := hr.un; omega
  exact ⟨tS (ck T) (fun _ => E) K05.b_law, (s1 (sret (gblt ball T.b_all vb_all (gA1 (gheld (gcomp [(("_law_k" : Str), 1)] nd (ir1 T.b_range (gblt bmax2 T.b_max vb_max (gA1 gi (gA1 (gblt bmin2 T.b_min vb_min (gA1 (gblt blen T.b_len vb_len (gA1 (gv 0) gA0)) (gA1 gi gA0))) gA0)))) (by kernel_rfl) (fun _ _ _ _ _ => (tn 1 nd)) (fun _ _ _ _ _ => gyes) (fun _ _ _ _ _ => (gcallF (bd_law_right T) (ok_law_right T) (hr.mono (by decide)) gd T.mg_law_right T.fn_law_right.kp len_nil (gnewL (gcallL (bd_law_purse T) (ok_law_purse T) (hr.mono (by decide)) gd T.mg_law_purse T.fn_law_purse.kp (len_d (len_d len_nil)) (gRd (gv 0) (gRd (gv 1) gR0)))) gR0)))) gA0)))
    s0), body_ok h⟩
theorem fin (T : TX K mg) {fa : Addr} (hfa : mg "law" = some (.ref fa)) (h : ∀ ns : List Int, ns.length ≤ 63 → ∃ e, K05.f_law [.dat (.ro (ns.map D.int))] = .ok (.bl true) e) : ∃ fd : FuncData, (∀ (s : Shared) (u : Value), BindsTo s fd ⟨[u], []⟩ [(("_law_script" : Str), u)]) ∧ ∀ base : Heap, K.In base → base.Ns mainGlobals mg → FnG P w K mg base CX0 9 fa fd [("_law_script" : Str)] (spLaw K) := by
  have e := hfa.symm.trans T.mg_law
  cases e
  refine ⟨T.fd_law, fun s u => T.fn_law.bindsA (ps := [("_law_script" : Str)]) (fun _ _ _ _ _ _ us hl => match us, hl with | [_], _ => rfl) s [u] rfl, fun base _ _ => (ok_law T).imp fun vs H Q E q => law_imp (c := ck T) h q⟩
end
end DL.K05

/-! ==== DM1 -/
/-! DM1: the mathematics' own kit: texts, pairs of texts, their tuples and lists as data -/
namespace DL
open PySem L2

/-! ### data of texts -/
def dP (p : Str × Str) : D := .tup [.str p.1, .str p.2]
theorem toPL_mapF {α : Type} {f : α → D} (l : List α) : toPL (l.map f) = l.map fun x => (f x).toP := by rw [toPL_map, List.map_map]; rfl
theorem eqvAll_map {α : Type} [DecidableEq α] {f : α → PyData} (h : ∀ x y, PyData.eqv (f x) (f y) = decide (x = y)) : ∀ l m : List α, PyData.eqvAll (l.map f) (m.map f) = decide (l = m)
  | [], [] => by simp [PyData.eqvAll]
  | [], _ :: _ => by simp [PyData.eqvAll]
  | _ :: _, [] => by simp [PyData.eqvAll]
  | x :: l, y :: m => by
    simp only [List.map_cons, PyData.eqvAll, h, eqvAll_map h l m]
    by_cases a : x = y <;> by_cases b : l = m <;> simp [a, b]
theorem eqv_str (a b : Str) : PyData.eqv (.str a) (.str b) = decide (a = b) := by
  simp only [PyData.eqv]
  by_cases h : a = b
  · subst h; simp
  · simp [h]
theorem eqv_dP (p q : Str × Str) : PyData.eqv (dP p).toP (dP q).toP = decide (p = q) := by
  obtain ⟨a, b⟩ := p
  obtain ⟨c, d⟩ := q
  simp only [dP, D.toP, toPL, PyData.eqv, PyData.eqvAll, eqv_str]
  by_cases h : a = c <;> by_cases h2 : b = d <;> simp [h, h2]
/-- what == asks of data: each of depth at most n -/
structure Ok (n : Nat) (d : D) : Prop where
  pu : d.pure = true
  ca : d.toP.canLay0 = true
  de : d.toP.depth ≤ n
theorem Ok.okP {n : Nat} {d : D} (h : Ok n d) (hn : n ≤ 64 := by decide) : okP d = true := by
  have h1 := h.de
  have h2 : d.toP.depth ≤ 64 := by omega
  simp [DL.okP, SeqAt.shaped, h.pu, h.ca, h2]
theorem Ok.mono {n m : Nat} {d : D} (h : Ok n d) (k : n ≤ m) : Ok m d := ⟨h.pu, h.ca, Nat.le_trans h.de k⟩
def SOk (s : Str) : Prop := PyData.strOk s = true
theorem ok_str {s : Str} (h : SOk s) : Ok 0 (.str s) := ⟨rfl, h, Nat.le_refl _⟩
theorem ok_int {i : Int} : Ok 0 (.int i) := ⟨rfl, rfl, Nat.le_refl _⟩
theorem ok_bl {i : Bool} : Ok 0 (.bl i) := ⟨rfl, rfl, Nat.le_refl _⟩
theorem okL {n : Nat} : ∀ {l : List D}, (∀ d ∈ l, Ok n d) → pureL l = true ∧ PyData.canLayAll0 (toPL l) = true ∧ PyData.depthAll (toPL l) ≤ n
  | [], _ => ⟨rfl, rfl, Nat.zero_le _⟩
  | d :: l, h => by
    obtain ⟨a1, a2, a3⟩ := okL (l := l) fun x m => h x (List.mem_cons_of_mem _ m)
    have b := h d List.mem_cons_self
    refine ⟨by simp [pureL, b.pu, a1], by simp [toPL, PyData.canLayAll0, b.ca, a2], ?_⟩
    simp only [toPL, PyData.depthAll]
    exact Nat.max_le.mpr ⟨b.de, a3⟩
theorem ok_tup {n : Nat} {l : List D} (h : ∀ d ∈ l, Ok n d) : Ok (n + 1) (.tup l) := by
  obtain ⟨a1, a2, a3⟩ := okL h
  exact ⟨a1, a2, Nat.succ_le_succ a3⟩
theorem ok_lst {n : Nat} {l : List D} (h : ∀ d ∈ l, Ok n d) : Ok (n + 1) (.lst l) := by
  obtain ⟨a1, a2, a3⟩ := okL h
  exact ⟨a1, a2, Nat.succ_le_succ a3⟩
theorem ok_dP {p : Str × Str} (h1 : SOk p.1) (h2 : SOk p.2) : Ok 1 (dP p) := ok_tup fun d m => by
  simp at m
  rcases m with rfl | rfl
  · exact ok_str h1
  · exact ok_str h2
theorem ok_tS {l : List Str} (h : ∀ s ∈ l, SOk s) : Ok 1 (.tup (l.map .str)) := ok_tup fun d m => by
  obtain ⟨s, ms, rfl⟩ := List.mem_map.mp m
  exact ok_str (h s ms)
theorem ok_lS {l : List Str} (h : ∀ s ∈ l, SOk s) : Ok 1 (.lst (l.map .str)) := ok_lst fun d m => by
  obtain ⟨s, ms, rfl⟩ := List.mem_map.mp m
  exact ok_str (h s ms)
theorem ok_tP {l : List (Str × Str)} (h : ∀ p ∈ l, SOk p.1 ∧ SOk p.2) : Ok 2 (.tup (l.map dP)) := ok_tup fun d m => by
  obtain ⟨s, ms, rfl⟩ := List.mem_map.mp m
  exact ok_dP (h s ms).1 (h s ms).2
/-! ### == -/
def tst (n b : Bool) : Bool := if n then !b else b
theorem eqF_int (n : Bool) (i j : Int) : eqF n (.int i) (.int j) = some (.bl (tst n (decide (i = j)))) := by
  show eqO _ _ _ = _
  unfold eqO
  rw [ok_int.okP, ok_int.okP]
  have e : (i == j) = decide (i = j) := by
    by_cases h : i = j
    · subst h; simp
    · simp [h]
  simp only [D.toP, PyData.eqv, Bool.and_true, if_true, tst, e]
theorem eqF_bl (n : Bool) (i j : Bool) : eqF n (.bl i) (.bl j) = some (.bl (tst n (i == j))) := by
  show eqO _ _ _ = _
  unfold eqO
  rw [ok_bl.okP, ok_bl.okP]
  simp only [D.toP, PyData.eqv, Bool.and_true, if_true, tst]
theorem eqF_s (n : Bool) (a b : Str) : eqF n (.str a) (.str b) = some (.bl (tst n (decide (a = b)))) := rfl
theorem eqF_str (n : Bool) {a b : Str} (ha : SOk a) (hb : SOk b) : eqF n (.str a) (.str b) = some (.bl (tst n (decide (a = b)))) := rfl
theorem eqF_tS (n : Bool) {l m : List Str} (hl : ∀ s ∈ l, SOk s) (hm : ∀ s ∈ m, SOk s) : eqF n (.tup (l.map .str)) (.tup (m.map .str)) = some (.bl (tst n (decide (l = m)))) := by
  show eqO _ _ _ = _
  unfold eqO
  rw [(ok_tS hl).okP, (ok_tS hm).okP]
  simp only [D.toP, PyData.eqv, toPL_mapF, Bool.and_true, if_true, tst]
  rw [eqvAll_map (f := fun x => PyData.str x) eqv_str]
theorem eqF_lS (n : Bool) {l m : List Str} (hl : ∀ s ∈ l, SOk s) (hm : ∀ s ∈ m, SOk s) : eqF n (.lst (l.map .str)) (.lst (m.map .str)) = some (.bl (tst n (decide (l = m)))) := by
  show eqO _ _ _ = _
  unfold eqO
  rw [(ok_lS hl).okP, (ok_lS hm).okP]
  simp only [D.toP, PyData.eqv, toPL_mapF, Bool.and_true, if_true, tst]
  rw [eqvAll_map (f := fun x => PyData.str x) eqv_str]
theorem eqF_tP (n : Bool) {l m : List (Str × Str)} (hl : ∀ p ∈ l, SOk p.1 ∧ SOk p.2) (hm : ∀ p ∈ m, SOk p.1 ∧ SOk p.2) : eqF n (.tup (l.map dP)) (.tup (m.map dP)) = some (.bl (tst n (decide (l = m)))) := by
  show eqO _ _ _ = _
  unfold eqO
  rw [(ok_tP hl).okP, (ok_tP hm).okP]
  simp only [D.toP, PyData.eqv, toPL_mapF, Bool.and_true, if_true, tst]
  rw [eqvAll_map (f := fun p => (dP p).toP) eqv_dP]
theorem eqF_lI (n : Bool) (l m : List Int) : eqF n (.lst (l.map .int)) (.lst (m.map .int)) = some (.bl (tst n (decide (l = m)))) := by
  have ok : ∀ l : List Int, Ok 1 (.lst (l.map .int)) := fun l => ok_lst fun d m => by
    obtain ⟨s, ms, rfl⟩ := List.mem_map.mp m
    exact ok_int
  show eqO _ _ _ = _
  unfold eqO
  rw [(ok l).okP, (ok m).okP]
  simp only [D.toP, PyData.eqv, toPL_mapF, Bool.and_true, if_true, tst]
  rw [eqvAll_map (f := fun x => PyData.int x) fun i j => by
    simp only [PyData.eqv]
    by_cases h : i = j
    · subst h; simp
    · simp [h]]
/-! ### in -/
theorem asV_S : ∀ l : List Str, asV (l.map .str) = some (l.map V.str)
  | [] => rfl
  | s :: l => by simp [asV, flatD, asV_S l]
theorem inV_S (a : Str) (l : List Str) : inV (.str a) (l.map V.str) = decide (a ∈ l) := by
  unfold inV
  rw [List.any_map]
  induction l with
  | nil => simp
  | cons b l ih =>
    rw [List.any_cons, ih]
    have e : eqV (V.str b) (V.str a) = decide (b = a) := by
      show (b == a) = _
      by_cases h : b = a
      · subst h; simp
      · simp [h]
    show (eqV (V.str b) (V.str a) || _) = _
    rw [e]
    by_cases h : b = a
    · subst h; simp
    · have : ¬ a = b := fun z => h z.symm
      simp [h, this]
theorem flat_S (l : List Str) : (l.map V.str).all flatV = true := by
  rw [List.all_map]
  simp [flatV]
theorem inF_tS (n : Bool) (a : Str) (l : List Str) : inF n (.str a) (.tup (l.map .str)) = some (.bl (tst n (decide (a ∈ l)))) := by
  have := flat_S l
  simp only [inF, seqOf, flatD, asV_S, flatV, this, inV_S, Bool.true_and, Bool.and_true, if_true, tst]
theorem inF_lS (n : Bool) (a : Str) (l : List Str) : inF n (.str a) (.lst (l.map .str)) = some (.bl (tst n (decide (a ∈ l)))) := by
  have := flat_S l
  simp only [inF, seqOf, flatD, asV_S, flatV, this, inV_S, Bool.true_and, Bool.and_true, if_true, tst]
theorem inF_tP (n : Bool) {p : Str × Str} {l : List (Str × Str)} (h : SOk p.1 ∧ SOk p.2) (hl : ∀ p ∈ l, SOk p.1 ∧ SOk p.2) : inF n (dP p) (.tup (l.map dP)) = some (.bl (tst n (decide (p ∈ l)))) := by
  have e : flatD (dP p) = none := rfl
  simp only [inF, seqOf, e, (ok_dP h.1 h.2).okP, (ok_tP hl).okP, Bool.and_true, if_true, tst]
  have k : (toPL (l.map dP)).any (fun z => PyData.eqv z (dP p).toP) = decide (p ∈ l) := by
    rw [toPL_mapF, List.any_map]
    induction l with
    | nil => simp
    | cons q l ih =>
      simp only [List.any_cons, Function.comp, eqv_dP, ih fun x m => hl x (List.mem_cons_of_mem _ m)]
      by_cases hq : q = p
      · subst hq; simp
      · have : ¬ p = q := fun z => hq z.symm
        simp [hq, this]
  rw [k]
/-! ### orders -/
theorem ltS_irr (a : Str) : ltS a a = false := by simp [ltS]
theorem ltS_trans {a b c : Str} (h : ltS a b = true) (k : ltS b c = true) : ltS a c = true := by
  simp only [ltS, decide_eq_true_eq] at *
  exact List.lt_trans h k
theorem ltS_tri (a b : Str) : ltS a b = true ∨ a = b ∨ ltS b a = true := by
  simp only [ltS, decide_eq_true_eq]
  rcases Nat.lt_trichotomy 0 0 with h | h | h
  · omega
  · by_cases h1 : a.cps.toList < b.cps.toList
    · exact .inl h1
    · by_cases h2 : b.cps.toList < a.cps.toList
      · exact .inr (.inr h2)
      · refine .inr (.inl ?_)
        have e : a.cps.toList = b.cps.toList := List.le_antisymm (List.not_lt.mp h2) (List.not_lt.mp h1)
        exact PySem.W.str_of_cps e
  · omega
def ltP (p q : Str × Str) : Bool := ltS p.1 q.1 || (decide (p.1 = q.1) && ltS p.2 q.2)
theorem ltP_irr (a : Str × Str) : ltP a a = false := by simp [ltP, ltS_irr]
theorem ltP_trans {a b c : Str × Str} (h : ltP a b = true) (k : ltP b c = true) : ltP a c = true := by
  simp only [ltP, Bool.or_eq_true, Bool.and_eq_true, decide_eq_true_eq] at *
  rcases h with h | ⟨h1, h2⟩
  · rcases k with k | ⟨k1, k2⟩
    · exact .inl (ltS_trans h k)
    · rw [k1] at h; exact .inl h
  · rcases k with k | ⟨k1, k2⟩
    · rw [← h1] at k; exact .inl k
    · exact .inr ⟨h1.trans k1, ltS_trans h2 k2⟩
theorem ltP_tri (a b : Str × Str) : ltP a b = true ∨ a = b ∨ ltP b a = true := by
  obtain ⟨a1, a2⟩ := a
  obtain ⟨b1, b2⟩ := b
  simp only [ltP, Bool.or_eq_true, Bool.and_eq_true, decide_eq_true_eq]
  rcases ltS_tri a1 b1 with h | h | h
  · exact .inl (.inl h)
  · subst h
    rcases ltS_tri a2 b2 with h | h | h
    · exact .inl (.inr ⟨rfl, h⟩)
    · subst h; exact .inr (.inl rfl)
    · exact .inr (.inr (.inr ⟨rfl, h⟩))
  · exact .inr (.inr (.inl h))
theorem dec_lt (a b : Str) : decide (a.cps.toList < b.cps.toList) = ltS a b := rfl
theorem leD_str (a b : Str) : leD (.str a) (.str b) = !ltS b a := by
  show (!PyProof.Rows.lexLt PyProof.Rows.itemOrd _ _) = _
  simp only [D.toP, PySem.W.keyToks, PyProof.Rows.lexLt, PyProof.Rows.itemOrd, PyProof.Rows.itemLt]
  simp only [dec_lt, Bool.and_false, Bool.or_false]
theorem leD_dP (p q : Str × Str) : leD (dP p) (dP q) = !ltP q p := by
  show (!PyProof.Rows.lexLt PyProof.Rows.itemOrd _ _) = _
  simp only [dP, D.toP, toPL, PySem.W.keyToks, PySem.W.keyToksAll, List.cons_append, List.nil_append, PyProof.Rows.lexLt, PyProof.Rows.itemOrd, PyProof.Rows.itemLt]
  simp only [dec_lt, Nat.lt_irrefl, decide_false, Bool.false_or, Bool.not_false, Bool.true_and, Bool.and_false, Bool.or_false, Int.lt_irrefl]
  unfold ltP
  rcases ltS_tri q.1 p.1 with h | h | h
  · simp [h]
  · rw [h]; simp [ltS_irr]
  · have h2 : ltS q.1 p.1 = false := by
      cases e : ltS q.1 p.1 with
      | false => rfl
      | true => have := ltS_trans h e; rw [ltS_irr] at this; cases this
    have h3 : ¬ q.1 = p.1 := fun z => by rw [z, ltS_irr] at h; cases h
    simp [h, h2, h3]
theorem leA_str (a b : Str) : leA (.str a) (.str b) = some (.bl (!ltS b a)) := rfl
theorem leA_dP (p q : Str × Str) : leA (dP p) (dP q) = some (.bl (!ltP q p)) := by
  have : leA (dP p) (dP q) = some (.bl (lexS [p.1, p.2] [q.1, q.2])) := rfl
  rw [this]
  have e : lexS [p.1, p.2] [q.1, q.2] = (if p.1 = q.1 then (if p.2 = q.2 then true else !ltS q.2 p.2) else !ltS q.1 p.1) := by
    simp [lexS, Ob.lexAt]
  rw [e]
  congr 2
  unfold ltP
  by_cases h : p.1 = q.1
  · rw [if_pos h, h]
    by_cases h2 : p.2 = q.2
    · rw [if_pos h2, h2]; simp [ltS_irr]
    · rw [if_neg h2]; simp [ltS_irr]
  · rw [if_neg h]
    have : ¬ q.1 = p.1 := fun z => h z.symm
    simp [this]
end DL

/-! ==== DM2 -/
/-! DM2: rising lists -/
namespace DL
open PySem L2
structure Ord {α : Type} (lt : α → α → Bool) : Prop where
  irr : ∀ a, lt a a = false
  trans : ∀ {a b c}, lt a b = true → lt b c = true → lt a c = true
  tri : ∀ a b, lt a b = true ∨ a = b ∨ lt b a = true
theorem ordS : Ord ltS := ⟨ltS_irr, ltS_trans, ltS_tri⟩
theorem ordP : Ord ltP := ⟨ltP_irr, ltP_trans, ltP_tri⟩
def Ri {α : Type} (lt : α → α → Bool) (l : List α) : Prop := l.Pairwise fun a b => lt a b = true
def srt {α : Type} (lt : α → α → Bool) (l : List α) : List α := l.mergeSort fun a b => !lt b a
section
variable {α : Type} {lt : α → α → Bool}
theorem Ord.asym (o : Ord lt) {a b : α} (h : lt a b = true) : lt b a = false := by
  cases e : lt b a with
  | false => rfl
  | true => have := o.trans h e; rw [o.irr] at this; cases this
theorem Ord.nle (o : Ord lt) {a b : α} (h : lt b a = false) : lt a b = true ∨ a = b := by
  rcases o.tri a b with k | k | k
  · exact .inl k
  · exact .inr k
  · rw [h] at k; cases k
theorem Ri.nodup (o : Ord lt) {l : List α} (h : Ri lt l) : l.Nodup := h.imp fun {a b} k e => by subst e; rw [o.irr] at k; cases k
theorem Ri.eq (o : Ord lt) : ∀ {l m : List α}, Ri lt l → Ri lt m → (∀ x, x ∈ l ↔ x ∈ m) → l = m
  | [], [], _, _, _ => rfl
  | [], y :: m, _, _, h => by have := (h y).mpr List.mem_cons_self; simp at this
  | x :: l, [], _, _, h => by have := (h x).mp List.mem_cons_self; simp at this
  | x :: l, y :: m, hl, hm, h => by
    have hl' := List.pairwise_cons.mp hl
    have hm' := List.pairwise_cons.mp hm
    have e : x = y := by
      rcases List.mem_cons.mp ((h x).mp List.mem_cons_self) with e | e
      · exact e
      · rcases List.mem_cons.mp ((h y).mpr List.mem_cons_self) with e2 | e2
        · exact e2.symm
        · have a := hm'.1 x e
          have b := hl'.1 y e2
          rw [o.asym a] at b; cases b
    subst e
    refine congrArg (x :: ·) (Ri.eq o hl'.2 hm'.2 fun z => ?_)
    have ne1 : ∀ z ∈ l, z ≠ x := fun z mz e => by subst e; have := hl'.1 z mz; rw [o.irr] at this; cases this
    have ne2 : ∀ z ∈ m, z ≠ x := fun z mz e => by subst e; have := hm'.1 z mz; rw [o.irr] at this; cases this
    constructor
    · intro mz
      rcases List.mem_cons.mp ((h z).mp (List.mem_cons_of_mem _ mz)) with e | e
      · exact absurd e (ne1 z mz)
      · exact e
    · intro mz
      rcases List.mem_cons.mp ((h z).mpr (List.mem_cons_of_mem _ mz)) with e | e
      · exact absurd e (ne2 z mz)
      · exact e
theorem srt_mem {l : List α} {x : α} : x ∈ srt lt l ↔ x ∈ l := by unfold srt; exact List.mem_mergeSort
theorem srt_perm (l : List α) : (srt lt l).Perm l := List.mergeSort_perm _ _
theorem srt_len (l : List α) : (srt lt l).length = l.length := (srt_perm l).length_eq
theorem srt_ri (o : Ord lt) {l : List α} (h : l.Nodup) : Ri lt (srt lt l) := by
  have tr : ∀ a b c : α, (!lt b a) = true → (!lt c b) = true → (!lt c a) = true := fun a b c h1 h2 => by
    simp only [Bool.not_eq_true'] at *
    cases e : lt c a with
    | false => rfl
    | true =>
      rcases o.nle h1 with k | k
      · have := o.trans e k; rw [h2] at this; cases this
      · subst k; rw [h2] at e; cases e
  have to : ∀ a b : α, ((!lt b a) || !lt a b) = true := fun a b => by
    cases e : lt b a with
    | false => rfl
    | true => simp [o.asym e]
  have p := List.pairwise_mergeSort tr to l
  have n : (srt lt l).Nodup := (srt_perm l).nodup_iff.mpr h
  refine (List.Pairwise.and p n).imp fun {a b} k => ?_
  have k1 : lt b a = false := by simpa using k.1
  rcases o.nle k1 with e | e
  · exact e
  · exact absurd e k.2
theorem srt_id (o : Ord lt) {l : List α} (h : Ri lt l) : srt lt l = l := (srt_ri o (h.nodup o)).eq o h fun _ => srt_mem
theorem Ri.filter {l : List α} (p : α → Bool) (h : Ri lt l) : Ri lt (l.filter p) := List.Pairwise.filter p h
theorem srt_map {f : α → D} (hf : ∀ a b, leD (f a) (f b) = !lt b a) (l : List α) : (l.map f).mergeSort leD = (srt lt l).map f := by
  unfold srt
  exact (List.map_mergeSort fun a _ b _ => (hf a b).symm).symm
end
theorem sortOk_S (l : List Str) : sortOk (l.map .str) = true := by
  unfold sortOk
  have h1 : pureL (l.map .str) = true := pureL_iff.mpr fun d m => by
    obtain ⟨s, _, rfl⟩ := List.mem_map.mp m
    rfl
  simp only [h1, Bool.true_and, Bool.and_eq_true, Bool.or_eq_true, List.all_eq_true]
  refine ⟨⟨fun a ma b mb => ?_, .inr fun a ma => ?_⟩, fun a ma => ?_⟩
  · obtain ⟨s, _, rfl⟩ := List.mem_map.mp ma
    obtain ⟨t, _, rfl⟩ := List.mem_map.mp mb
    rfl
  · obtain ⟨s, _, rfl⟩ := List.mem_map.mp ma
    rfl
  · obtain ⟨s, _, rfl⟩ := List.mem_map.mp ma
    rfl
theorem sortOk_P (l : List (Str × Str)) : sortOk (l.map dP) = true := by
  unfold sortOk
  have h1 : pureL (l.map dP) = true := pureL_iff.mpr fun d m => by
    obtain ⟨s, _, rfl⟩ := List.mem_map.mp m
    rfl
  simp only [h1, Bool.true_and, Bool.and_eq_true, Bool.or_eq_true, List.all_eq_true]
  refine ⟨⟨fun a ma b mb => ?_, .inl fun a ma => ?_⟩, fun a ma => ?_⟩
  · obtain ⟨s, _, rfl⟩ := List.mem_map.mp ma
    obtain ⟨t, _, rfl⟩ := List.mem_map.mp mb
    rfl
  · obtain ⟨s, _, rfl⟩ := List.mem_map.mp ma
    rfl
  · obtain ⟨s, _, rfl⟩ := List.mem_map.mp ma
    rfl
/-! ### evaluation -/
section
variable {e e1 : Env} {ra : Env → Out (List D)}
theorem sort_S {l : List Str} (h : ra e = .ok [.lst (l.map .str)] e1) : sortF ra e = .ok ((srt ltS l).map .str) e1 := by
  unfold sortF
  rw [h]
  simp only [bind_ok, lrOf, sortOk_S, if_true]
  rw [srt_map leD_str]
theorem sort_P {l : List (Str × Str)} (h : ra e = .ok [.lst (l.map dP)] e1) : sortF ra e = .ok ((srt ltP l).map dP) e1 := by
  unfold sortF
  rw [h]
  simp only [bind_ok, lrOf, sortOk_P, if_true]
  rw [srt_map leD_dP]
end
/-- a comprehension that changes no slot but its own -/
theorem compL_pure {vs : List Nat} {rg : D → Env → Option Env} {rt : Env → Out Bool} {re : Env → Out D} {e : Env} {p : D → Bool} {g : D → D} : ∀ {ds : List D},
    (∀ d ∈ ds, ∃ e2, rg d e = some e2 ∧ freeE e2 vs = true ∧ wipeE e2 vs = e ∧ rt e2 = .ok (p d) e2 ∧ (p d = true → re e2 = .ok (g d) e2)) → compL vs rg rt re ds e = .ok ((ds.filter p).map g) e
  | [], _ => rfl
  | d :: ds, h => by
    obtain ⟨e2, h1, h2, h3, h4, h5⟩ := h d List.mem_cons_self
    have ih := compL_pure (ds := ds) fun x m => h x (List.mem_cons_of_mem _ m)
    unfold compL
    rw [h1]
    simp only [h2, if_true, h4, noEx, bind_ok]
    cases hp : p d with
    | true =>
      rw [if_pos rfl, h5 hp]
      simp only [bind_ok, h2, if_true, h3, ih, List.filter_cons, hp, List.map_cons]
    | false =>
      rw [if_neg Bool.false_ne_true]
      simp only [h3, ih, List.filter_cons, hp]
      rfl
theorem compL_map {α : Type} {f g : α → D} {p : α → Bool} {vs : List Nat} {rg : D → Env → Option Env} {rt : Env → Out Bool} {re : Env → Out D} {e : Env} : ∀ {l : List α},
    (∀ a ∈ l, ∃ e2, rg (f a) e = some e2 ∧ freeE e2 vs = true ∧ wipeE e2 vs = e ∧ rt e2 = .ok (p a) e2 ∧ (p a = true → re e2 = .ok (g a) e2)) → compL vs rg rt re (l.map f) e = .ok ((l.filter p).map g) e
  | [], _ => rfl
  | d :: ds, h => by
    obtain ⟨e2, h1, h2, h3, h4, h5⟩ := h d List.mem_cons_self
    have ih := compL_map (l := ds) fun x m => h x (List.mem_cons_of_mem _ m)
    rw [List.map_cons]
    unfold compL
    rw [h1]
    simp only [h2, if_true, h4, noEx, bind_ok]
    cases hp : p d with
    | true =>
      rw [if_pos rfl, h5 hp]
      simp only [bind_ok, h2, if_true, h3, ih, List.filter_cons, hp, List.map_cons]
    | false =>
      rw [if_neg Bool.false_ne_true]
      simp only [h3, ih, List.filter_cons, hp]
      rfl
theorem compF_map {α : Type} {f g : α → D} {p : α → Bool} {vs : List Nat} {ri : Env → Out (List D)} {rg : D → Env → Option Env} {rt : Env → Out Bool} {re : Env → Out D} {env : Env} {l : List α}
    (hi : ri env = .ok (l.map f) env) (fr : freeE env vs = true) (hl : l.length ≤ sizeLine) (hb : backE env (wipeE env vs) vs = env)
    (h : ∀ a ∈ l, ∃ e2, rg (f a) (wipeE env vs) = some e2 ∧ freeE e2 vs = true ∧ wipeE e2 vs = wipeE env vs ∧ rt e2 = .ok (p a) e2 ∧ (p a = true → re e2 = .ok (g a) e2)) : compF vs ri rg rt re env = .ok ((l.filter p).map g) env := by
  unfold compF
  rw [hi]
  have hl' : (l.map f).length ≤ sizeLine := by simpa using hl
  simp only [bind_ok, fr, hl', decide_true, Bool.and_true, if_true, compL_map h, noEx, hb]
/-- a walk whose body goes on -/
theorem loopS_inv {rg : D → Env → Option Env} {sl : List Nat} {rb : Env → Out Fl} (P : Nat → Env → Prop) : ∀ {ds : List D} {n : Nat} {e : Env},
    (∀ i d e, ds[i]? = some d → P (n + i) e → ∃ e2 e3, rg d e = some e2 ∧ (keepsB e e2 && freeE e2 sl) = true ∧ rb e2 = .ok .nx e3 ∧ P (n + i + 1) e3) → P n e → ∃ e', loopS rg sl rb ds e = .ok .nx e' ∧ P (n + ds.length) e'
  | [], n, e, _, p => ⟨e, rfl, p⟩
  | d :: ds, n, e, h, p => by
    obtain ⟨e2, e3, h1, h2, h3, h4⟩ := h 0 d e rfl p
    obtain ⟨e', k1, k2⟩ := loopS_inv P (ds := ds) (n := n + 1) (e := e3) (fun i d e q r => by
      have := h (i + 1) d e (by simpa using q) (by rw [show n + (i + 1) = n + 1 + i by omega]; exact r)
      rwa [show n + (i + 1) + 1 = n + 1 + i + 1 by omega] at this) h4
    refine ⟨e', ?_, by rw [List.length_cons, show n + (ds.length + 1) = n + 1 + ds.length by omega]; exact k2⟩
    unfold loopS
    rw [h1]
    simp only [h2, if_true, h3, bind_ok]
    exact k1
theorem asB_map {α : Type} (f : α → Bool) : ∀ l : List α, asB (l.map fun a => .bl (f a)) = some (l.map f)
  | [] => rfl
  | a :: l => by simp [asB, asB_map f l]
theorem asI_map {α : Type} (f : α → Int) : ∀ l : List α, asI (l.map fun a => .int (f a)) = some (l.map f)
  | [] => rfl
  | a :: l => by simp [asI, asI_map f l]
theorem allF_map {α : Type} (f : α → Bool) (l : List α) : allF (.lst (l.map fun a => .bl (f a))) = some (.bl (l.all f)) := by
  simp [allF, lrOf, asB_map, List.all_map]
theorem anyF_map {α : Type} (f : α → Bool) (l : List α) : anyF (.lst (l.map fun a => .bl (f a))) = some (.bl (l.any f)) := by
  simp [anyF, lrOf, asB_map, List.any_map]
theorem sumF_map {α : Type} (f : α → Int) (l : List α) : sumF (.lst (l.map fun a => .int (f a))) = some (.int (l.map f).sum) := by
  simp [sumF, lrOf, asI_map]
theorem atI_nat {α : Type} {l : List α} {k : Nat} {d : α} (h : l[k]? = some d) : atI l (k : Int) = some d := by
  have : k < l.length := (List.getElem?_eq_some_iff.mp h).1
  have e : ixN l.length (k : Int) = some k := by
    unfold ixN
    rw [if_pos (by omega), if_pos (by omega)]
    simp
  unfold atI
  rw [e]
  exact h
theorem ix_tup {l : List D} {k : Nat} {d : D} (h : l[k]? = some d) : ixF (.tup l) (.int (k : Int)) = some d := by
  show (seqOf (.tup l)).bind (fun l => atI l (k : Int)) = _
  exact atI_nat h
theorem ix_lst {l : List D} {k : Nat} {d : D} (h : l[k]? = some d) : ixF (.lst l) (.int (k : Int)) = some d := by
  show (seqOf (.lst l)).bind (fun l => atI l (k : Int)) = _
  exact atI_nat h
theorem ix_ro {l : List D} {k : Nat} {d : D} (h : l[k]? = some d) : ixF (.ro l) (.int (k : Int)) = some d := by
  show (seqOf (.ro l)).bind (fun l => atI l (k : Int)) = _
  exact atI_nat h
theorem enL_at {l : List D} {i : Nat} {d : D} (h : (enL l)[i]? = some d) : ∃ x, l[i]? = some x ∧ d = .tup [.int (i : Nat), x] := by
  unfold enL at h
  rw [List.getElem?_map] at h
  cases e : l[i]? with
  | none => simp [e] at h
  | some x => simp [e] at h; exact ⟨x, rfl, h.symm⟩
end DL

/-! ==== DM3 -/
/-! DM3: what comes out, by wishes -/
namespace DL
open PySem L2
def Wp {α : Type} (o : Out α) (Q : α → Env → Prop) : Prop := ∃ a e, o = .ok a e ∧ Q a e
section
variable {α β : Type} {Q : α → Env → Prop}
theorem wp_bind {o : Out β} {f : β → Env → Out α} : Wp (o.bind f) Q ↔ Wp o fun a e => Wp (f a e) Q := by
  constructor
  · rintro ⟨a, e, h, q⟩
    cases o with
    | no => cases h
    | ex x e => cases h
    | ok b e' => exact ⟨b, e', rfl, a, e, h, q⟩
  · rintro ⟨b, e', rfl, a, e, h, q⟩
    exact ⟨a, e, h, q⟩
theorem wp_ok {a : α} {e : Env} : Wp (.ok a e) Q ↔ Q a e := ⟨fun ⟨_, _, h, q⟩ => by cases h; exact q, fun q => ⟨a, e, rfl, q⟩⟩
theorem wp_eq {o : Out α} {a : α} {e : Env} (h : o = .ok a e) (q : Q a e) : Wp o Q := ⟨a, e, h, q⟩
theorem Wp.mono {o : Out α} {Q' : α → Env → Prop} (h : Wp o Q) (k : ∀ a e, Q a e → Q' a e) : Wp o Q' := by
  obtain ⟨a, e, h1, h2⟩ := h
  exact ⟨a, e, h1, k a e h2⟩
theorem Wp.out {o : Out α} {a : α} {e : Env} (h : Wp o fun b e' => b = a ∧ e' = e) : o = .ok a e := by
  obtain ⟨b, e', h1, rfl, rfl⟩ := h
  exact h1
theorem wp_ite {c : Prop} [Decidable c] {a b : Out α} (h1 : c → Wp a Q) (h2 : ¬ c → Wp b Q) : Wp (if c then a else b) Q := by
  by_cases h : c
  · rw [if_pos h]; exact h1 h
  · rw [if_neg h]; exact h2 h
theorem wp_if {c : Prop} [Decidable c] {a b : Out α} (h : c) (q : Wp a Q) : Wp (if c then a else b) Q := by rw [if_pos h]; exact q
theorem wp_ifn {c : Prop} [Decidable c] {a b : Out α} (h : ¬ c) (q : Wp b Q) : Wp (if c then a else b) Q := by rw [if_neg h]; exact q
end
section
variable {Q : Fl → Env → Prop} {e : Env}
theorem wp_seq {r1 r2 : Env → Out Fl} (h : Wp (r1 e) fun fl e1 => match fl with | .nx => Wp (r2 e1) Q | fl => Q fl e1) : Wp (seqS r1 r2 e) Q := by
  unfold seqS
  rw [wp_bind]
  refine h.mono fun fl e1 k => ?_
  cases fl with
  | nx => exact k
  | _ => exact wp_ok.mpr k
theorem wp_ifS {rc : Env → Out Bool} {ra rb : Env → Out Fl} (h : Wp (rc e) fun b e1 => if b = true then Wp (ra e1) Q else Wp (rb e1) Q) : Wp (ifS rc ra rb e) Q := by
  unfold ifS
  rw [wp_bind]
  refine h.mono fun b e1 k => ?_
  cases b with
  | true => exact k
  | false => exact k
theorem wp_nx : Wp (nextS e) Q ↔ Q .nx e := wp_ok
/-- a walk whose turns all go on -/
theorem wp_for {ri : Env → Out (List D)} {rg : D → Env → Option Env} {sl : List Nat} {rb : Env → Out Fl} (P : Nat → Env → Prop) (ds : List D) (e1 : Env) (hi : ri e = .ok ds e1) (h0 : P 0 e1)
    (hs : ∀ i d e, ds[i]? = some d → P i e → ∃ e2, rg d e = some e2 ∧ (keepsB e e2 && freeE e2 sl) = true ∧ Wp (rb e2) fun fl e3 => fl = .nx ∧ P (i + 1) e3) (hd : ∀ e', P ds.length e' → Q .nx e') : Wp (forS ri rg sl rb e) Q := by
  unfold forS
  rw [hi, bind_ok]
  obtain ⟨e', h1, h2⟩ := loopS_inv (rg := rg) (sl := sl) (rb := rb) P (ds := ds) (n := 0) (e := e1) (fun i d e q r => by
    rw [Nat.zero_add] at r ⊢
    obtain ⟨e2, k1, k2, fl, e3, k3, rfl, k4⟩ := hs i d e q r
    exact ⟨e2, e3, k1, k2, k3, k4⟩) h0
  rw [Nat.zero_add] at h2
  exact ⟨_, _, h1, hd e' h2⟩
end
/-- a comprehension whose state goes on: S is the environment's shape between two turns -/
theorem compL_st {σ : Type} {vs : List Nat} {rg : D → Env → Option Env} {rt : Env → Out Bool} {re : Env → Out D} (E : σ → Env) (I : σ → Prop) (R : Nat → D → Prop) : ∀ {ds : List D} {n : Nat} {s : σ}, I s →
    (∀ i d s, ds[i]? = some d → I s → ∃ e2, rg d (E s) = some e2 ∧ freeE e2 vs = true ∧ rt e2 = .ok true e2 ∧ Wp (re e2) fun y e4 => freeE e4 vs = true ∧ R (n + i) y ∧ ∃ s', I s' ∧ wipeE e4 vs = E s') →
    ∃ ys s', compL vs rg rt re ds (E s) = .ok ys (E s') ∧ I s' ∧ ys.length = ds.length ∧ ∀ (i : Nat) y, ys[i]? = some y → R (n + i) y
  | [], n, s, hI, _ => ⟨[], s, rfl, hI, rfl, fun i y h => by simp at h⟩
  | d :: ds, n, s, hI, h => by
    obtain ⟨e2, h1, h2, h3, y, e4, h4, h5, h6, s', h7, h8⟩ := h 0 d s rfl hI
    obtain ⟨ys, s2, k1, k2, k3, k4⟩ := compL_st (re := re) (rt := rt) (rg := rg) (vs := vs) E I R (ds := ds) (n := n + 1) (s := s') h7 fun i d s q r => by
      have := h (i + 1) d s (by simpa using q) r
      rwa [show n + (i + 1) = n + 1 + i by omega] at this
    refine ⟨y :: ys, s2, ?_, k2, by simp [k3], fun i z hz => ?_⟩
    · unfold compL
      rw [h1]
      simp only [h2, if_true, h3, noEx, bind_ok, h4, h5, h8, k1]
    · cases i with
      | zero => simp at hz; subst hz; exact h6
      | succ i =>
        have := k4 i z (by simpa using hz)
        rwa [show n + 1 + i = n + (i + 1) by omega] at this
theorem compF_st {σ : Type} {vs : List Nat} {ri : Env → Out (List D)} {rg : D → Env → Option Env} {rt : Env → Out Bool} {re : Env → Out D} {env e1 : Env} (ds : List D) (s0 : σ) (E : σ → Env) (I : σ → Prop) (R : Nat → D → Prop) {Q : List D → Env → Prop} (hi : ri env = .ok ds e1) (fr : freeE e1 vs = true) (hl : ds.length ≤ sizeLine)
    (h0 : wipeE e1 vs = E s0) (hI : I s0)
    (h : ∀ i d s, ds[i]? = some d → I s → ∃ e2, rg d (E s) = some e2 ∧ freeE e2 vs = true ∧ rt e2 = .ok true e2 ∧ Wp (re e2) fun y e4 => freeE e4 vs = true ∧ R i y ∧ ∃ s', I s' ∧ wipeE e4 vs = E s')
    (hq : ∀ ys s', I s' → ys.length = ds.length → (∀ (i : Nat) y, ys[i]? = some y → R i y) → Q ys (backE e1 (E s') vs)) : Wp (compF vs ri rg rt re env) Q := by
  obtain ⟨ys, s', k1, k2, k3, k4⟩ := compL_st (re := re) (rt := rt) (rg := rg) (vs := vs) E I R (ds := ds) (n := 0) (s := s0) hI fun i d s q r => by
    rw [Nat.zero_add]; exact h i d s q r
  refine ⟨ys, _, ?_, hq ys s' k2 k3 fun i y hy => by have := k4 i y hy; rwa [Nat.zero_add] at this⟩
  unfold compF
  rw [hi]
  simp only [bind_ok, fr, hl, decide_true, Bool.and_true, if_true, h0, k1, noEx]
theorem fn_wp {n tot : Nat} {rb : Env → Out Fl} {svs : List SV} {Q : D → Env → Prop} (h : Wp (rb (svs ++ List.replicate (tot - n) .un)) fun fl e => match fl with | .nx => Q .non (backA svs e) | .rt d => Q d (backA svs e) | _ => False) (hl : svs.length = n := by rfl) : Wp (fnOf n tot rb svs) Q := by
  obtain ⟨fl, e, h1, h2⟩ := h
  unfold fnOf
  rw [if_pos hl, h1]
  cases fl with
  | nx => exact ⟨_, _, rfl, h2⟩
  | rt d => exact ⟨_, _, rfl, h2⟩
  | bk => exact h2.elim
  | ct => exact h2.elim
theorem backA_dat {svs : List SV} (h : svs.all (fun s => !s.isB) = true) : ∀ e : Env, backA svs e = svs := by
  induction svs with
  | nil => intro e; rfl
  | cons s r ih =>
    intro e
    simp only [List.all_cons, Bool.and_eq_true] at h
    cases e with
    | nil => cases s <;> rfl
    | cons x e =>
      cases s with
      | bor o => cases h.1
      | _ => simp [backA, ih h.2 e]
theorem consA1 {ra : Env → Out D} {e e1 : Env} {d : D} (h : ra e = .ok d e1) : consA ra nilA e = .ok [d] e1 := by
  unfold consA
  rw [h]
  rfl
theorem held_ok {rf : Env → Out (List D)} {e e1 : Env} {l : List D} (h : rf e = .ok l e1) : heldD rf e = .ok (.lst l) e1 := by
  unfold heldD
  rw [h]
  rfl
section
variable {e e1 e2 e3 : Env} {ra rb : Env → Out D} {rA : Env → Out (List D)} {ta tb : Env → Out Bool} {b k : Bool} {x y d : D}
theorem or1 (h : ta e = .ok true e1) : orT ta tb e = .ok true e1 := by unfold orT; rw [h]; rfl
theorem or2 (h : ta e = .ok false e1) (h2 : tb e1 = .ok b e2) : orT ta tb e = .ok b e2 := by unfold orT; rw [h]; exact h2
theorem and1 (h : ta e = .ok false e1) : andT ta tb e = .ok false e1 := by unfold andT; rw [h]; rfl
theorem and2 (h : ta e = .ok true e1) (h2 : tb e1 = .ok b e2) : andT ta tb e = .ok b e2 := by unfold andT; rw [h]; exact h2
theorem not1 (h : ta e = .ok b e1) (hb : (!b) = k := by rfl) : notT ta e = .ok k e1 := by unfold notT; rw [h, ← hb]; rfl
theorem val1 (h : ra e = .ok (.bl b) e1) : valT ra e = .ok b e1 := by unfold valT; rw [h]; rfl
theorem bin1 {f : D → D → Option D} (h : ra e = .ok x e1) (h2 : rb e1 = .ok y e2) (h3 : f x y = some d) : bin2 (pur2 f) ra rb e = .ok d e2 := by
  unfold bin2
  rw [h, bind_ok, h2, bind_ok]
  unfold pur2
  rw [h3]
theorem andD2 (h : ra e = .ok (.bl true) e1) (h2 : rb e1 = .ok d e2) : andD ra rb e = .ok d e2 := by unfold andD; rw [h]; exact h2
theorem andD1 (h : ra e = .ok (.bl false) e1) : andD ra rb e = .ok (.bl false) e1 := by unfold andD; rw [h]; rfl
theorem orD2 (h : ra e = .ok (.bl false) e1) (h2 : rb e1 = .ok d e2) : orD ra rb e = .ok d e2 := by unfold orD; rw [h]; exact h2
theorem orD1 (h : ra e = .ok (.bl true) e1) : orD ra rb e = .ok (.bl true) e1 := by unfold orD; rw [h]; rfl
theorem ifSf {r1 r2 : Env → Out Fl} {fl : Fl} (h : ta e = .ok false e1) (h2 : r2 e1 = .ok fl e2) : ifS ta r1 r2 e = .ok fl e2 := by unfold ifS; rw [h]; exact h2
theorem ifSt {r1 r2 : Env → Out Fl} {fl : Fl} (h : ta e = .ok true e1) (h2 : r1 e1 = .ok fl e2) : ifS ta r1 r2 e = .ok fl e2 := by unfold ifS; rw [h]; exact h2
theorem ifDf (h : ta e = .ok false e1) (h2 : rb e1 = .ok d e2) : ifD ta ra rb e = .ok d e2 := by unfold ifD; rw [h]; exact h2
theorem ifDt (h : ta e = .ok true e1) (h2 : ra e1 = .ok d e2) : ifD ta ra rb e = .ok d e2 := by unfold ifD; rw [h]; exact h2
theorem consA2 {ds : List D} (h : ra e = .ok d e1) (h2 : rA e1 = .ok ds e2) : consA ra rA e = .ok (d :: ds) e2 := by unfold consA; rw [h, bind_ok, h2]; rfl
theorem call1 {f : List D → Option D} {ds : List D} (h : rA e = .ok ds e1) (h2 : f ds = some d) : callD f rA e = .ok d e1 := by unfold callD; rw [h, bind_ok, h2]
theorem callo {f : D → Option D} (h : ra e = .ok x e1) (h2 : f x = some d) : callD (one f) (consA ra nilA) e = .ok d e1 := call1 (consA1 h) h2
theorem ret1 (h : ra e = .ok d e1) : retS ra e = .ok (.rt d) e1 := by unfold retS; rw [h]; rfl
theorem asg1 {rg : D → Env → Option Env} {sl : List Nat} (h : ra e = .ok d e1) (h2 : rg d e1 = some e2) (h3 : (keepsB e1 e2 && freeE e2 sl) = true) : asgS ra rg sl e = .ok .nx e2 := by
  unfold asgS
  rw [h, bind_ok, h2]
  simp only [h3, if_true]
theorem tup1 {ds : List D} (h : rA e = .ok ds e1) (hz : ds.length ≤ sizeLine) : tupD rA e = .ok (.tup ds) e1 := by unfold tupD; rw [h, bind_ok, if_pos hz]
theorem lst1 {ds : List D} (h : rA e = .ok ds e1) (hz : ds.length ≤ sizeLine) : lstF rA e = .ok ds e1 := by unfold lstF; rw [h, bind_ok, if_pos hz]
theorem fld1 {cn f : Str} (h : ra e = .ok x e1) (h2 : fldF cn f x = some d) : fldD cn f ra e = .ok d e1 := by unfold fldD pur1; rw [h, bind_ok, h2]
theorem itT1 {l : List D} (h : ra e = .ok (.tup l) e1) : itA ra e = .ok l e1 := by unfold itA itT; rw [h]; rfl
theorem itL1 {l : List D} (h : ra e = .ok (.lst l) e1) : itA ra e = .ok l e1 := by unfold itA itL; rw [h]; rfl
end
theorem nm1 {i : Nat} {e : Env} {d : D} (h : e[i]? = some (.dat d)) : nameD i e = .ok d e := by unfold nameD; rw [h]
theorem cn1 {d : D} {e : Env} : constD d e = .ok d e := rfl
theorem int_sum {α : Type} (f : α → Nat) : ∀ l : List α, (l.map fun a => ((f a : Nat) : Int)).sum = (((l.map f).sum : Nat) : Int)
  | [] => rfl
  | a :: l => by
    rw [List.map_cons, List.sum_cons, int_sum f l, List.map_cons, List.sum_cons]
    omega
theorem len_tm {α : Type} (f : α → D) (l : List α) : lenF (.tup (l.map f)) = some (.int l.length) := by
  show some (D.int ((l.map f).length : Nat)) = _
  rw [List.length_map]
theorem len_lm {α : Type} (f : α → D) (l : List α) : lenF (.lst (l.map f)) = some (.int l.length) := by
  show some (D.int ((l.map f).length : Nat)) = _
  rw [List.length_map]
/-- a comprehension that keeps some of the items, its state goes on -/
theorem compL_sub {σ : Type} {vs : List Nat} {rg : D → Env → Option Env} {rt : Env → Out Bool} {re : Env → Out D} (E : σ → Env) (I : σ → Prop) : ∀ {ds : List D} {s : σ}, I s →
    (∀ d s, d ∈ ds → I s → ∃ e2 b e3 s', rg d (E s) = some e2 ∧ freeE e2 vs = true ∧ rt e2 = .ok b e3 ∧ freeE e3 vs = true ∧ re e3 = .ok d e3 ∧ I s' ∧ wipeE e3 vs = E s') →
    ∃ ys s', compL vs rg rt re ds (E s) = .ok ys (E s') ∧ I s' ∧ ys.Sublist ds
  | [], s, hI, _ => ⟨[], s, rfl, hI, List.Sublist.refl _⟩
  | d :: ds, s, hI, h => by
    obtain ⟨e2, b, e3, s', h1, h2, h3, h4, h5, h6, h7⟩ := h d s List.mem_cons_self hI
    obtain ⟨ys, s2, k1, k2, k3⟩ := compL_sub (re := re) (rt := rt) (rg := rg) (vs := vs) E I (ds := ds) (s := s') h6 fun d s m q => h d s (List.mem_cons_of_mem _ m) q
    cases b with
    | true =>
      refine ⟨d :: ys, s2, ?_, k2, k3.cons_cons d⟩
      unfold compL
      rw [h1]
      simp only [h2, if_true, h3, noEx, bind_ok, h4, h5, h7, k1]
    | false =>
      refine ⟨ys, s2, ?_, k2, k3.cons d⟩
      unfold compL
      rw [h1]
      simp only [h2, if_true, h3, noEx, bind_ok, h4, h7, k1, Bool.false_eq_true, if_false]
theorem compF_sub {σ : Type} {vs : List Nat} {ri : Env → Out (List D)} {rg : D → Env → Option Env} {rt : Env → Out Bool} {re : Env → Out D} {env e1 : Env} (ds : List D) (s0 : σ) (E : σ → Env) (I : σ → Prop) (hi : ri env = .ok ds e1) (fr : freeE e1 vs = true) (hl : ds.length ≤ sizeLine)
    (h0 : wipeE e1 vs = E s0) (hI : I s0)
    (h : ∀ d s, d ∈ ds → I s → ∃ e2 b e3 s', rg d (E s) = some e2 ∧ freeE e2 vs = true ∧ rt e2 = .ok b e3 ∧ freeE e3 vs = true ∧ re e3 = .ok d e3 ∧ I s' ∧ wipeE e3 vs = E s') :
    ∃ ys s', compF vs ri rg rt re env = .ok ys (backE e1 (E s') vs) ∧ I s' ∧ ys.Sublist ds := by
  obtain ⟨ys, s', k1, k2, k3⟩ := compL_sub (re := re) (rt := rt) (rg := rg) (vs := vs) E I (ds := ds) (s := s0) hI h
  refine ⟨ys, s', ?_, k2, k3⟩
  unfold compF
  rw [hi]
  simp only [bind_ok, fr, hl, decide_true, Bool.and_true, if_true, h0, k1, noEx]
end DL

/-! ==== GMA_K04 -/
namespace DL.K04
open PySem L2
abbrev abc : Str := ("abcdefghijklmnopqrstuvwxyz" : Str)
/-- a name -/
structure Nm (s : Str) : Prop where
  lo : 1 ≤ s.length
  hi : s.length ≤ 8
  ch : ∀ c ∈ s.cps.toList, c ∈ abc.cps.toList
theorem sz : (8 : Nat) ≤ sizeLine := by decide
theorem is_name_ok {s : Str} (h : Nm s) : f_is_name [.dat (.str s)] = .ok (.bl true) [.dat (.str s)] := by
  have h1 : s.length ≤ sizeLine := Nat.le_trans h.hi sz
  have hc : compF [1] (itA (nameD 0)) (setD 1) yesT (bin2 (pur2 (inF false)) (nameD 1) (constD (.str abc))) [.dat (.str s), .un] = .ok ((s.cps.toList.filter fun _ => true).map fun c => .bl (decide (c ∈ abc.cps.toList))) [.dat (.str s), .un] := by
    refine compF_map (f := fun c => .str ⟨#[c]⟩) rfl rfl (by simpa [Str.length] using h1) rfl fun c m => ⟨[.dat (.str s), .dat (.str ⟨#[c]⟩)], rfl, rfl, rfl, rfl, fun _ => ?_⟩
    simp [bin2, nameD, constD, pur2, inF, signOf]
  rw [show s.cps.toList.filter (fun _ => true) = s.cps.toList from List.filter_eq_self.mpr fun _ _ => rfl] at hc
  have hn : (1 : Int) ≤ (s.length : Int) := by have := h.lo; omega
  have hx : (s.length : Int) ≤ 8 := by have := h.hi; omega
  have hall : (s.cps.toList.all fun c => decide (c ∈ abc.cps.toList)) = true := by
    rw [List.all_eq_true]
    intro c m
    simpa using h.ch c m
  unfold f_is_name fnOf b_is_name
  simp [nameD, constD, bin2, un1, pur2, pur1, consA, nilA, tupD, lstF, heldD, callD, one, seqS, ifS, retS, retNS, dropS, asgS, asgOS, parS, parT, andT, orT, notT, valT, blOf, andD, orD, notD, ifD, chainD, fldD, isiD, itA, itT, itS, itL, itEA, itET, itE, itR1, itR2, nextS, neverS, yesT, setD, setCons, setNil, setTup, appS, storeS, ownIx, ownUse, consRd, consRr, nilR, callS, fnCall, methS, mkCall, posA, kwA, consMd, consMf, nilM, newL, setAll, refsB, refsOf, nodupB, svsOf, putBack, ovOf, putOv, lstOf, backA, callFS, fnCallF, callLS, fnCallL, seqL, thenL, retL, ifL, nilL, nilN, seqN, doN, fldN, putFD, cmpF, addF, intF, lenF, tupleF, listF, max2F, min2F, int1F, asB, asI, asS, lrOf, seqOf, negF, kbTy, tyName, noO, someO, cutA, sl3, cutF, cutLF, keepsB, freeE, noEx, SV.isO, SV.isB, OV.toD, finD, yes2, h1, hn, hx]
  rw [hc]
  simp only [nameD, constD, bin2, un1, pur2, pur1, consA, nilA, tupD, lstF, heldD, callD, one, seqS, ifS, retS, retNS, dropS, asgS, asgOS, parS, parT, andT, orT, notT, valT, blOf, andD, orD, notD, ifD, chainD, fldD, isiD, itA, itT, itS, itL, itEA, itET, itE, itR1, itR2, nextS, neverS, yesT, setD, setCons, setNil, setTup, appS, storeS, ownIx, ownUse, consRd, consRr, nilR, callS, fnCall, methS, mkCall, posA, kwA, consMd, consMf, nilM, newL, setAll, refsB, refsOf, nodupB, svsOf, putBack, ovOf, putOv, lstOf, backA, callFS, fnCallF, callLS, fnCallL, seqL, thenL, retL, ifL, nilL, nilN, seqN, doN, fldN, putFD, cmpF, addF, intF, lenF, tupleF, listF, max2F, min2F, int1F, asB, asI, asS, lrOf, seqOf, negF, kbTy, tyName, noO, someO, cutA, sl3, cutF, cutLF, keepsB, freeE, noEx, SV.isO, SV.isB, OV.toD, finD, yes2, bind_ok, allF_map, hall]
/-- bells of a web -/
structure Bl (l : List Str) : Prop where
  lo : 1 ≤ l.length
  hi : l.length ≤ 12
  nm : ∀ s ∈ l, Nm s
  ri : Ri ltS l
theorem Ri.step {α : Type} {lt : α → α → Bool} {l : List α} (h : Ri lt l) {i : Nat} {a b : α} (ha : l[i]? = some a) (hb : l[i + 1]? = some b) : lt a b = true := by
  have h1 := (List.getElem?_eq_some_iff.mp ha)
  have h2 := (List.getElem?_eq_some_iff.mp hb)
  obtain ⟨h1, rfl⟩ := h1
  obtain ⟨h2, rfl⟩ := h2
  exact List.pairwise_iff_getElem.mp h i (i + 1) h1 h2 (by omega)
theorem check_bells_ok {l : List Str} (h : Bl l) : f_check_bells [.dat (.tup (l.map .str))] = .ok .non [.dat (.tup (l.map .str))] := by
  have hn : (1 : Int) ≤ (l.length : Int) := by have := h.lo; omega
  have hx : (l.length : Int) ≤ 12 := by have := h.hi; omega
  refine Wp.out (fn_wp ?_)
  unfold b_check_bells
  refine wp_seq (wp_eq (a := .nx) (e := [.dat (.tup (l.map .str)), .un, .un]) ?_ ?_)
  · simp [nameD, constD, bin2, un1, pur2, pur1, consA, nilA, tupD, lstF, heldD, callD, one, seqS, ifS, retS, retNS, dropS, asgS, asgOS, parS, parT, andT, orT, notT, valT, blOf, andD, orD, notD, ifD, chainD, fldD, isiD, itA, itT, itS, itL, itEA, itET, itE, itR1, itR2, nextS, neverS, yesT, setD, setCons, setNil, setTup, appS, storeS, ownIx, ownUse, consRd, consRr, nilR, callS, fnCall, methS, mkCall, posA, kwA, consMd, consMf, nilM, newL, setAll, refsB, refsOf, nodupB, svsOf, putBack, ovOf, putOv, lstOf, backA, callFS, fnCallF, callLS, fnCallL, seqL, thenL, retL, ifL, nilL, nilN, seqN, doN, fldN, putFD, cmpF, addF, intF, lenF, tupleF, listF, max2F, min2F, int1F, asB, asI, asS, lrOf, seqOf, negF, kbTy, tyName, noO, someO, cutA, sl3, cutF, cutLF, keepsB, freeE, noEx, SV.isO, SV.isB, OV.toD, finD, yes2, hn, hx]
  refine wp_seq (wp_for (fun _ e => ∃ s1 s2, e = [.dat (.tup (l.map .str)), s1, s2] ∧ s1.isO = false ∧ s2.isO = false) (enL (l.map .str)) _ rfl ⟨_, _, rfl, rfl, rfl⟩ ?_ ?_)
  · rintro i d e hd ⟨s1, s2, rfl, h1, h2⟩
    obtain ⟨x, hx, rfl⟩ := enL_at hd
    rw [List.getElem?_map] at hx
    cases hs : l[i]? with
    | none => rw [hs] at hx; cases hx
    | some s =>
      rw [hs] at hx; cases hx
      have ns := is_name_ok (h.nm s (List.mem_of_getElem? hs))
      refine ⟨[.dat (.tup (l.map .str)), .dat (.int i), .dat (.str s)], ?_, ?_, ?_⟩
      · cases s1 <;> cases s2 <;> first | rfl | (exact Bool.noConfusion h1) | (exact Bool.noConfusion h2)
      · cases s1 <;> cases s2 <;> first | rfl | (exact Bool.noConfusion h1) | (exact Bool.noConfusion h2)
      · refine wp_seq (wp_eq (a := .nx) (e := [.dat (.tup (l.map .str)), .dat (.int i), .dat (.str s)]) ?_ (wp_nx.mpr ⟨rfl, _, _, rfl, rfl, rfl⟩))
        simp [nameD, constD, bin2, un1, pur2, pur1, consA, nilA, tupD, lstF, heldD, callD, one, seqS, ifS, retS, retNS, dropS, asgS, asgOS, parS, parT, andT, orT, notT, valT, blOf, andD, orD, notD, ifD, chainD, fldD, isiD, itA, itT, itS, itL, itEA, itET, itE, itR1, itR2, nextS, neverS, yesT, setD, setCons, setNil, setTup, appS, storeS, ownIx, ownUse, consRd, consRr, nilR, callS, fnCall, methS, mkCall, posA, kwA, consMd, consMf, nilM, newL, setAll, refsB, refsOf, nodupB, svsOf, putBack, ovOf, putOv, lstOf, backA, callFS, fnCallF, callLS, fnCallL, seqL, thenL, retL, ifL, nilL, nilN, seqN, doN, fldN, putFD, cmpF, addF, intF, lenF, tupleF, listF, max2F, min2F, int1F, asB, asI, asS, lrOf, seqOf, negF, kbTy, tyName, noO, someO, cutA, sl3, cutF, cutLF, keepsB, freeE, noEx, SV.isO, SV.isB, OV.toD, finD, yes2, ns]
        cases i with
        | zero => simp [nameD, constD, bin2, un1, pur2, pur1, consA, nilA, tupD, lstF, heldD, callD, one, seqS, ifS, retS, retNS, dropS, asgS, asgOS, parS, parT, andT, orT, notT, valT, blOf, andD, orD, notD, ifD, chainD, fldD, isiD, itA, itT, itS, itL, itEA, itET, itE, itR1, itR2, nextS, neverS, yesT, setD, setCons, setNil, setTup, appS, storeS, ownIx, ownUse, consRd, consRr, nilR, callS, fnCall, methS, mkCall, posA, kwA, consMd, consMf, nilM, newL, setAll, refsB, refsOf, nodupB, svsOf, putBack, ovOf, putOv, lstOf, backA, callFS, fnCallF, callLS, fnCallL, seqL, thenL, retL, ifL, nilL, nilN, seqN, doN, fldN, putFD, cmpF, addF, intF, lenF, tupleF, listF, max2F, min2F, int1F, asB, asI, asS, lrOf, seqOf, negF, kbTy, tyName, noO, someO, cutA, sl3, cutF, cutLF, keepsB, freeE, noEx, SV.isO, SV.isB, OV.toD, finD, yes2]
        | succ i =>
          have hi : i < l.length := by have := (List.getElem?_eq_some_iff.mp hs).1; omega
          have hp : l[i]? = some l[i] := by simp [hi]
          have hlt := Ri.step h.ri hp hs
          have hix : ixF (.tup (l.map .str)) (.int (((i : Nat) : Int))) = some (.str l[i]) := ix_tup (by rw [List.getElem?_map, hp]; rfl)
          have hpos : (0 : Int) < ((i : Nat) : Int) + 1 := by omega
          simp [nameD, constD, bin2, un1, pur2, pur1, consA, nilA, tupD, lstF, heldD, callD, one, seqS, ifS, retS, retNS, dropS, asgS, asgOS, parS, parT, andT, orT, notT, valT, blOf, andD, orD, notD, ifD, chainD, fldD, isiD, itA, itT, itS, itL, itEA, itET, itE, itR1, itR2, nextS, neverS, yesT, setD, setCons, setNil, setTup, appS, storeS, ownIx, ownUse, consRd, consRr, nilR, callS, fnCall, methS, mkCall, posA, kwA, consMd, consMf, nilM, newL, setAll, refsB, refsOf, nodupB, svsOf, putBack, ovOf, putOv, lstOf, backA, callFS, fnCallF, callLS, fnCallL, seqL, thenL, retL, ifL, nilL, nilN, seqN, doN, fldN, putFD, cmpF, addF, intF, lenF, tupleF, listF, max2F, min2F, int1F, asB, asI, asS, lrOf, seqOf, negF, kbTy, tyName, noO, someO, cutA, sl3, cutF, cutLF, keepsB, freeE, noEx, SV.isO, SV.isB, OV.toD, finD, yes2, hpos, hix, leA_str, hlt]
  · rintro e' ⟨s1, s2, rfl, h1, h2⟩
    exact wp_nx.mpr ⟨rfl, rfl⟩
theorem Nm.ok {s : Str} (h : Nm s) : SOk s := by
  have key : ∀ c ∈ abc.cps.toList, c < 0x110000 := by decide +kernel
  show PyData.strOk s = true
  unfold PyData.strOk
  rw [← Array.all_toList, List.all_eq_true]
  intro c m
  simpa using key c (h.ch c m)
theorem Bl.sok {l : List Str} (h : Bl l) : ∀ s ∈ l, SOk s := fun s m => (h.nm s m).ok
/-- wakes of a web -/
structure Wk (l : List Str) (w : List (Str × Str)) : Prop where
  mem : ∀ p ∈ w, p.1 ∈ l ∧ p.2 ∈ l
  ri : Ri ltP w
  len : w.length ≤ 144
theorem is_wake_ok {l : List Str} {p : Str × Str} (h : Bl l) (h1 : p.1 ∈ l) (h2 : p.2 ∈ l) : f_is_wake [.dat (dP p), .dat (.tup (l.map .str))] = .ok (.bl true) [.dat (dP p), .dat (.tup (l.map .str))] := by
  have n1 := is_name_ok (h.nm _ h1)
  have n2 := is_name_ok (h.nm _ h2)
  have hc : compF [2] (itA (nameD 0)) (setD 2) yesT (andD (callS (fnCall f_is_name) (posA []) (consRd (nameD 2) nilR) nilR) (bin2 (pur2 (inF false)) (nameD 2) (nameD 1))) [.dat (dP p), .dat (.tup (l.map .str)), .un] = .ok (([p.1, p.2].filter fun _ => true).map fun s => .bl (decide (s ∈ l))) [.dat (dP p), .dat (.tup (l.map .str)), .un] := by
    refine compF_map (f := D.str) rfl rfl (show 2 ≤ sizeLine by decide) rfl fun s m => ⟨[.dat (dP p), .dat (.tup (l.map .str)), .dat (.str s)], rfl, rfl, rfl, rfl, fun _ => ?_⟩
    have ns : f_is_name [.dat (.str s)] = .ok (.bl true) [.dat (.str s)] := by
      simp at m
      rcases m with rfl | rfl
      · exact n1
      · exact n2
    simp [nameD, constD, bin2, un1, pur2, pur1, consA, nilA, tupD, lstF, heldD, callD, one, seqS, ifS, retS, retNS, dropS, asgS, asgOS, parS, parT, andT, orT, notT, valT, blOf, andD, orD, notD, ifD, chainD, fldD, isiD, itA, itT, itS, itL, itEA, itET, itE, itR1, itR2, nextS, neverS, yesT, setD, setCons, setNil, setTup, appS, storeS, ownIx, ownUse, consRd, consRr, nilR, callS, fnCall, methS, mkCall, posA, kwA, consMd, consMf, nilM, newL, setAll, refsB, refsOf, nodupB, svsOf, putBack, ovOf, putOv, lstOf, backA, callFS, fnCallF, callLS, fnCallL, seqL, thenL, retL, ifL, nilL, nilN, seqN, doN, fldN, putFD, cmpF, addF, intF, lenF, tupleF, listF, max2F, min2F, int1F, asB, asI, asS, lrOf, seqOf, negF, kbTy, tyName, noO, someO, cutA, sl3, cutF, cutLF, keepsB, freeE, noEx, SV.isO, SV.isB, OV.toD, finD, yes2, ns, inF_tS, tst]
  have hall : ([p.1, p.2].all fun s => decide (s ∈ l)) = true := by simp [h1, h2]
  refine Wp.out (fn_wp ?_)
  unfold b_is_wake
  refine wp_seq (wp_eq (a := .nx) (e := [.dat (dP p), .dat (.tup (l.map .str)), .un]) ?_ ?_)
  · simp [nameD, constD, bin2, un1, pur2, pur1, consA, nilA, tupD, lstF, heldD, callD, one, seqS, ifS, retS, retNS, dropS, asgS, asgOS, parS, parT, andT, orT, notT, valT, blOf, andD, orD, notD, ifD, chainD, fldD, isiD, itA, itT, itS, itL, itEA, itET, itE, itR1, itR2, nextS, neverS, yesT, setD, setCons, setNil, setTup, appS, storeS, ownIx, ownUse, consRd, consRr, nilR, callS, fnCall, methS, mkCall, posA, kwA, consMd, consMf, nilM, newL, setAll, refsB, refsOf, nodupB, svsOf, putBack, ovOf, putOv, lstOf, backA, callFS, fnCallF, callLS, fnCallL, seqL, thenL, retL, ifL, nilL, nilN, seqN, doN, fldN, putFD, cmpF, addF, intF, lenF, tupleF, listF, max2F, min2F, int1F, asB, asI, asS, lrOf, seqOf, negF, kbTy, tyName, noO, someO, cutA, sl3, cutF, cutLF, keepsB, freeE, noEx, SV.isO, SV.isB, OV.toD, finD, yes2, dP, eqF_int, tst]
  refine wp_seq (wp_eq (a := .rt (.bl true)) (e := [.dat (dP p), .dat (.tup (l.map .str)), .un]) ?_ ⟨rfl, rfl⟩)
  have hc' := hc
  rw [show [p.1, p.2].filter (fun _ => true) = [p.1, p.2] from rfl] at hc'
  simp only [nameD, constD, bin2, un1, pur2, pur1, consA, nilA, tupD, lstF, heldD, callD, one, seqS, ifS, retS, retNS, dropS, asgS, asgOS, parS, parT, andT, orT, notT, valT, blOf, andD, orD, notD, ifD, chainD, fldD, isiD, itA, itT, itS, itL, itEA, itET, itE, itR1, itR2, nextS, neverS, yesT, setD, setCons, setNil, setTup, appS, storeS, ownIx, ownUse, consRd, consRr, nilR, callS, fnCall, methS, mkCall, posA, kwA, consMd, consMf, nilM, newL, setAll, refsB, refsOf, nodupB, svsOf, putBack, ovOf, putOv, lstOf, backA, callFS, fnCallF, callLS, fnCallL, seqL, thenL, retL, ifL, nilL, nilN, seqN, doN, fldN, putFD, cmpF, addF, intF, lenF, tupleF, listF, max2F, min2F, int1F, asB, asI, asS, lrOf, seqOf, negF, kbTy, tyName, noO, someO, cutA, sl3, cutF, cutLF, keepsB, freeE, noEx, SV.isO, SV.isB, OV.toD, finD, yes2, bind_ok]
  rw [hc']
  simp only [nameD, constD, bin2, un1, pur2, pur1, consA, nilA, tupD, lstF, heldD, callD, one, seqS, ifS, retS, retNS, dropS, asgS, asgOS, parS, parT, andT, orT, notT, valT, blOf, andD, orD, notD, ifD, chainD, fldD, isiD, itA, itT, itS, itL, itEA, itET, itE, itR1, itR2, nextS, neverS, yesT, setD, setCons, setNil, setTup, appS, storeS, ownIx, ownUse, consRd, consRr, nilR, callS, fnCall, methS, mkCall, posA, kwA, consMd, consMf, nilM, newL, setAll, refsB, refsOf, nodupB, svsOf, putBack, ovOf, putOv, lstOf, backA, callFS, fnCallF, callLS, fnCallL, seqL, thenL, retL, ifL, nilL, nilN, seqN, doN, fldN, putFD, cmpF, addF, intF, lenF, tupleF, listF, max2F, min2F, int1F, asB, asI, asS, lrOf, seqOf, negF, kbTy, tyName, noO, someO, cutA, sl3, cutF, cutLF, keepsB, freeE, noEx, SV.isO, SV.isB, OV.toD, finD, yes2, bind_ok, allF_map, hall]
theorem check_wakes_ok {l : List Str} {w : List (Str × Str)} (h : Bl l) (hw : Wk l w) : f_check_wakes [.dat (.tup (w.map dP)), .dat (.tup (l.map .str))] = .ok .non [.dat (.tup (w.map dP)), .dat (.tup (l.map .str))] := by
  refine Wp.out (fn_wp ?_)
  unfold b_check_wakes
  refine wp_seq (wp_eq (a := .nx) (e := [.dat (.tup (w.map dP)), .dat (.tup (l.map .str)), .un, .un]) ?_ ?_)
  · simp [nameD, constD, bin2, un1, pur2, pur1, consA, nilA, tupD, lstF, heldD, callD, one, seqS, ifS, retS, retNS, dropS, asgS, asgOS, parS, parT, andT, orT, notT, valT, blOf, andD, orD, notD, ifD, chainD, fldD, isiD, itA, itT, itS, itL, itEA, itET, itE, itR1, itR2, nextS, neverS, yesT, setD, setCons, setNil, setTup, appS, storeS, ownIx, ownUse, consRd, consRr, nilR, callS, fnCall, methS, mkCall, posA, kwA, consMd, consMf, nilM, newL, setAll, refsB, refsOf, nodupB, svsOf, putBack, ovOf, putOv, lstOf, backA, callFS, fnCallF, callLS, fnCallL, seqL, thenL, retL, ifL, nilL, nilN, seqN, doN, fldN, putFD, cmpF, addF, intF, lenF, tupleF, listF, max2F, min2F, int1F, asB, asI, asS, lrOf, seqOf, negF, kbTy, tyName, noO, someO, cutA, sl3, cutF, cutLF, keepsB, freeE, noEx, SV.isO, SV.isB, OV.toD, finD, yes2]
  refine wp_seq (wp_for (fun _ e => ∃ s1 s2, e = [.dat (.tup (w.map dP)), .dat (.tup (l.map .str)), s1, s2] ∧ s1.isO = false ∧ s2.isO = false) (enL (w.map dP)) _ rfl ⟨_, _, rfl, rfl, rfl⟩ ?_ ?_)
  · rintro i d e hd ⟨s1, s2, rfl, h1, h2⟩
    obtain ⟨x, hx, rfl⟩ := enL_at hd
    rw [List.getElem?_map] at hx
    cases hs : w[i]? with
    | none => rw [hs] at hx; cases hx
    | some s =>
      rw [hs] at hx; cases hx
      obtain ⟨m1, m2⟩ := hw.mem s (List.mem_of_getElem? hs)
      have ns := is_wake_ok h m1 m2
      refine ⟨[.dat (.tup (w.map dP)), .dat (.tup (l.map .str)), .dat (.int i), .dat (dP s)], ?_, ?_, ?_⟩
      · cases s1 <;> cases s2 <;> first | rfl | (exact Bool.noConfusion h1) | (exact Bool.noConfusion h2)
      · cases s1 <;> cases s2 <;> first | rfl | (exact Bool.noConfusion h1) | (exact Bool.noConfusion h2)
      · refine wp_seq (wp_eq (a := .nx) (e := [.dat (.tup (w.map dP)), .dat (.tup (l.map .str)), .dat (.int i), .dat (dP s)]) ?_ (wp_nx.mpr ⟨rfl, _, _, rfl, rfl, rfl⟩))
        simp [nameD, constD, bin2, un1, pur2, pur1, consA, nilA, tupD, lstF, heldD, callD, one, seqS, ifS, retS, retNS, dropS, asgS, asgOS, parS, parT, andT, orT, notT, valT, blOf, andD, orD, notD, ifD, chainD, fldD, isiD, itA, itT, itS, itL, itEA, itET, itE, itR1, itR2, nextS, neverS, yesT, setD, setCons, setNil, setTup, appS, storeS, ownIx, ownUse, consRd, consRr, nilR, callS, fnCall, methS, mkCall, posA, kwA, consMd, consMf, nilM, newL, setAll, refsB, refsOf, nodupB, svsOf, putBack, ovOf, putOv, lstOf, backA, callFS, fnCallF, callLS, fnCallL, seqL, thenL, retL, ifL, nilL, nilN, seqN, doN, fldN, putFD, cmpF, addF, intF, lenF, tupleF, listF, max2F, min2F, int1F, asB, asI, asS, lrOf, seqOf, negF, kbTy, tyName, noO, someO, cutA, sl3, cutF, cutLF, keepsB, freeE, noEx, SV.isO, SV.isB, OV.toD, finD, yes2, ns]
        cases i with
        | zero => simp [nameD, constD, bin2, un1, pur2, pur1, consA, nilA, tupD, lstF, heldD, callD, one, seqS, ifS, retS, retNS, dropS, asgS, asgOS, parS, parT, andT, orT, notT, valT, blOf, andD, orD, notD, ifD, chainD, fldD, isiD, itA, itT, itS, itL, itEA, itET, itE, itR1, itR2, nextS, neverS, yesT, setD, setCons, setNil, setTup, appS, storeS, ownIx, ownUse, consRd, consRr, nilR, callS, fnCall, methS, mkCall, posA, kwA, consMd, consMf, nilM, newL, setAll, refsB, refsOf, nodupB, svsOf, putBack, ovOf, putOv, lstOf, backA, callFS, fnCallF, callLS, fnCallL, seqL, thenL, retL, ifL, nilL, nilN, seqN, doN, fldN, putFD, cmpF, addF, intF, lenF, tupleF, listF, max2F, min2F, int1F, asB, asI, asS, lrOf, seqOf, negF, kbTy, tyName, noO, someO, cutA, sl3, cutF, cutLF, keepsB, freeE, noEx, SV.isO, SV.isB, OV.toD, finD, yes2]
        | succ i =>
          have hi : i < w.length := by have := (List.getElem?_eq_some_iff.mp hs).1; omega
          have hp : w[i]? = some w[i] := by simp [hi]
          have hlt := Ri.step hw.ri hp hs
          have hix : ixF (.tup (w.map dP)) (.int (((i : Nat) : Int))) = some (dP w[i]) := ix_tup (by rw [List.getElem?_map, hp]; rfl)
          have hpos : (0 : Int) < ((i : Nat) : Int) + 1 := by omega
          simp [nameD, constD, bin2, un1, pur2, pur1, consA, nilA, tupD, lstF, heldD, callD, one, seqS, ifS, retS, retNS, dropS, asgS, asgOS, parS, parT, andT, orT, notT, valT, blOf, andD, orD, notD, ifD, chainD, fldD, isiD, itA, itT, itS, itL, itEA, itET, itE, itR1, itR2, nextS, neverS, yesT, setD, setCons, setNil, setTup, appS, storeS, ownIx, ownUse, consRd, consRr, nilR, callS, fnCall, methS, mkCall, posA, kwA, consMd, consMf, nilM, newL, setAll, refsB, refsOf, nodupB, svsOf, putBack, ovOf, putOv, lstOf, backA, callFS, fnCallF, callLS, fnCallL, seqL, thenL, retL, ifL, nilL, nilN, seqN, doN, fldN, putFD, cmpF, addF, intF, lenF, tupleF, listF, max2F, min2F, int1F, asB, asI, asS, lrOf, seqOf, negF, kbTy, tyName, noO, someO, cutA, sl3, cutF, cutLF, keepsB, freeE, noEx, SV.isO, SV.isB, OV.toD, finD, yes2, hpos, hix, leA_dP, hlt]
  · rintro e' ⟨s1, s2, rfl, h1, h2⟩
    exact wp_nx.mpr ⟨rfl, rfl⟩
/-- a web as data -/
abbrev webN : List Str := [("bells" : Str), ("wakes" : Str)]
def webD (l : List Str) (w : List (Str × Str)) : D := .obj ("Web" : Str) [("bells" : Str), ("wakes" : Str)] [.tup (l.map .str), .tup (w.map dP)]
theorem init_ok {l : List Str} {w : List (Str × Str)} (h : Bl l) (hw : Wk l w) : f_Web_init [.dat (.tup (l.map .str)), .dat (.tup (w.map dP))] = .ok [(("bells" : Str), .tup (l.map .str)), (("wakes" : Str), .tup (w.map dP))] [.dat (.tup (l.map .str)), .dat (.tup (w.map dP))] := by
  have ne : ¬ ("bells" : Str) = ("wakes" : Str) := by decide +kernel
  unfold f_Web_init fnN b_Web_init
  simp [nameD, constD, bin2, un1, pur2, pur1, consA, nilA, tupD, lstF, heldD, callD, one, seqS, ifS, retS, retNS, dropS, asgS, asgOS, parS, parT, andT, orT, notT, valT, blOf, andD, orD, notD, ifD, chainD, fldD, isiD, itA, itT, itS, itL, itEA, itET, itE, itR1, itR2, nextS, neverS, yesT, setD, setCons, setNil, setTup, appS, storeS, ownIx, ownUse, consRd, consRr, nilR, callS, fnCall, methS, mkCall, posA, kwA, consMd, consMf, nilM, newL, setAll, refsB, refsOf, nodupB, svsOf, putBack, ovOf, putOv, lstOf, backA, callFS, fnCallF, callLS, fnCallL, seqL, thenL, retL, ifL, nilL, nilN, seqN, doN, fldN, putFD, cmpF, addF, intF, lenF, tupleF, listF, max2F, min2F, int1F, asB, asI, asS, lrOf, seqOf, negF, kbTy, tyName, noO, someO, cutA, sl3, cutF, cutLF, keepsB, freeE, noEx, SV.isO, SV.isB, OV.toD, finD, yes2, check_bells_ok h, check_wakes_ok h hw, ne]
theorem fld_bells (l : List Str) (w : List (Str × Str)) : fldF ("Web" : Str) ("bells" : Str) (webD l w) = some (.tup (l.map .str)) := by rfl
theorem fld_wakes (l : List Str) (w : List (Str × Str)) : fldF ("Web" : Str) ("wakes" : Str) (webD l w) = some (.tup (w.map dP)) := by rfl
def tw (w : List (Str × Str)) : List (Str × Str) := srt ltP (w.map Prod.swap)
theorem nodup_swap {w : List (Str × Str)} (h : w.Nodup) : (w.map Prod.swap).Nodup := by
  rw [List.nodup_iff_pairwise_ne, List.pairwise_map] 
  exact (List.nodup_iff_pairwise_ne.mp h).imp fun {a b} k e => k (by
    have := congrArg Prod.swap e
    simpa using this)
theorem mem_tw {w : List (Str × Str)} {p : Str × Str} : p ∈ tw w ↔ p.swap ∈ w := by
  unfold tw
  rw [srt_mem, List.mem_map]
  constructor
  · rintro ⟨q, m, rfl⟩; simpa using m
  · intro m; exact ⟨p.swap, m, by simp⟩
theorem wk_tw {l : List Str} {w : List (Str × Str)} (h : Wk l w) : Wk l (tw w) := by
  refine ⟨fun p m => ?_, srt_ri ordP (nodup_swap (h.ri.nodup ordP)), by unfold tw; rw [srt_len, List.length_map]; exact h.len⟩
  have := h.mem _ (mem_tw.mp m)
  exact ⟨this.2, this.1⟩
theorem turned_ok {l : List Str} {w : List (Str × Str)} (h : Bl l) (hw : Wk l w) : f_Web_turned [.dat (webD l w)] = .ok (webD l (tw w)) [.dat (webD l w)] := by
  have hz : w.length ≤ sizeLine := Nat.le_trans hw.len (by decide)
  have hc : compF [1, 2] (itA (fldD ("Web" : Str) ("wakes" : Str) (nameD 0))) (setTup 2 (setCons (setD 1) (setCons (setD 2) setNil))) yesT (tupD (consA (nameD 2) (consA (nameD 1) nilA))) [.dat (webD l w), .un, .un] = .ok ((w.filter fun _ => true).map fun p => dP p.swap) [.dat (webD l w), .un, .un] :=
    compF_map (f := dP) (by simp [nameD, constD, bin2, un1, pur2, pur1, consA, nilA, tupD, lstF, heldD, callD, one, seqS, ifS, retS, retNS, dropS, asgS, asgOS, parS, parT, andT, orT, notT, valT, blOf, andD, orD, notD, ifD, chainD, fldD, isiD, itA, itT, itS, itL, itEA, itET, itE, itR1, itR2, nextS, neverS, yesT, setD, setCons, setNil, setTup, appS, storeS, ownIx, ownUse, consRd, consRr, nilR, callS, fnCall, methS, mkCall, posA, kwA, consMd, consMf, nilM, newL, setAll, refsB, refsOf, nodupB, svsOf, putBack, ovOf, putOv, lstOf, backA, callFS, fnCallF, callLS, fnCallL, seqL, thenL, retL, ifL, nilL, nilN, seqN, doN, fldN, putFD, cmpF, addF, intF, lenF, tupleF, listF, max2F, min2F, int1F, asB, asI, asS, lrOf, seqOf, negF, kbTy, tyName, noO, someO, cutA, sl3, cutF, cutLF, keepsB, freeE, noEx, SV.isO, SV.isB, OV.toD, finD, yes2, fld_wakes]) rfl hz rfl fun p m => ⟨[.dat (webD l w), .dat (.str p.1), .dat (.str p.2)], rfl, rfl, rfl, rfl, fun _ => rfl⟩
  rw [show w.filter (fun _ => true) = w from List.filter_eq_self.mpr fun _ _ => rfl] at hc
  have hm : (w.map fun p => dP p.swap) = (w.map Prod.swap).map dP := by simp
  rw [hm] at hc
  have hs : sortF (consA (heldD (compF [1, 2] (itA (fldD ("Web" : Str) ("wakes" : Str) (nameD 0))) (setTup 2 (setCons (setD 1) (setCons (setD 2) setNil))) yesT (tupD (consA (nameD 2) (consA (nameD 1) nilA))))) nilA) [.dat (webD l w), .un, .un] = .ok ((tw w).map dP) [.dat (webD l w), .un, .un] := by
    exact sort_P (consA1 (held_ok hc))
  refine Wp.out (fn_wp ?_)
  unfold b_Web_turned
  refine wp_seq (wp_eq (a := .rt (webD l (tw w))) (e := [.dat (webD l w), .un, .un]) ?_ ⟨rfl, rfl⟩)
  have hi := init_ok h (wk_tw hw)
  simp [nameD, constD, bin2, un1, pur2, pur1, consA, nilA, tupD, lstF, heldD, callD, one, seqS, ifS, retS, retNS, dropS, asgS, asgOS, parS, parT, andT, orT, notT, valT, blOf, andD, orD, notD, ifD, chainD, fldD, isiD, itA, itT, itS, itL, itEA, itET, itE, itR1, itR2, nextS, neverS, yesT, setD, setCons, setNil, setTup, appS, storeS, ownIx, ownUse, consRd, consRr, nilR, callS, fnCall, methS, mkCall, posA, kwA, consMd, consMf, nilM, newL, setAll, refsB, refsOf, nodupB, svsOf, putBack, ovOf, putOv, lstOf, backA, callFS, fnCallF, callLS, fnCallL, seqL, thenL, retL, ifL, nilL, nilN, seqN, doN, fldN, putFD, cmpF, addF, intF, lenF, tupleF, listF, max2F, min2F, int1F, asB, asI, asS, lrOf, seqOf, negF, kbTy, tyName, noO, someO, cutA, sl3, cutF, cutLF, keepsB, freeE, noEx, SV.isO, SV.isB, OV.toD, finD, yes2, fld_bells]
  rw [hs]
  simp [nameD, constD, bin2, un1, pur2, pur1, consA, nilA, tupD, lstF, heldD, callD, one, seqS, ifS, retS, retNS, dropS, asgS, asgOS, parS, parT, andT, orT, notT, valT, blOf, andD, orD, notD, ifD, chainD, fldD, isiD, itA, itT, itS, itL, itEA, itET, itE, itR1, itR2, nextS, neverS, yesT, setD, setCons, setNil, setTup, appS, storeS, ownIx, ownUse, consRd, consRr, nilR, callS, fnCall, methS, mkCall, posA, kwA, consMd, consMf, nilM, newL, setAll, refsB, refsOf, nodupB, svsOf, putBack, ovOf, putOv, lstOf, backA, callFS, fnCallF, callLS, fnCallL, seqL, thenL, retL, ifL, nilL, nilN, seqN, doN, fldN, putFD, cmpF, addF, intF, lenF, tupleF, listF, max2F, min2F, int1F, asB, asI, asS, lrOf, seqOf, negF, kbTy, tyName, noO, someO, cutA, sl3, cutF, cutLF, keepsB, freeE, noEx, SV.isO, SV.isB, OV.toD, finD, yes2, hi, webD]
theorem woken_ok {l : List Str} {w : List (Str × Str)} {a : Str} (h : Bl l) (hw : Wk l w) (ha : a ∈ l) : f_Web_woken [.dat (webD l w), .dat (.str a)] = .ok (.tup (((w.filter fun p => decide (p.1 = a)).map (·.2)).map .str)) [.dat (webD l w), .dat (.str a)] := by
  have hz : w.length ≤ sizeLine := Nat.le_trans hw.len (by decide)
  have hb : f_check_bell [.dat (webD l w), .dat (.str a)] = .ok .non [.dat (webD l w), .dat (.str a)] := by
    refine Wp.out (fn_wp ?_)
    unfold b_check_bell
    refine wp_seq (wp_eq (a := .nx) (e := [.dat (webD l w), .dat (.str a)]) ?_ (wp_nx.mpr ⟨rfl, rfl⟩))
    simp [nameD, constD, bin2, un1, pur2, pur1, consA, nilA, tupD, lstF, heldD, callD, one, seqS, ifS, retS, retNS, dropS, asgS, asgOS, parS, parT, andT, orT, notT, valT, blOf, andD, orD, notD, ifD, chainD, fldD, isiD, itA, itT, itS, itL, itEA, itET, itE, itR1, itR2, nextS, neverS, yesT, setD, setCons, setNil, setTup, appS, storeS, ownIx, ownUse, consRd, consRr, nilR, callS, fnCall, methS, mkCall, posA, kwA, consMd, consMf, nilM, newL, setAll, refsB, refsOf, nodupB, svsOf, putBack, ovOf, putOv, lstOf, backA, callFS, fnCallF, callLS, fnCallL, seqL, thenL, retL, ifL, nilL, nilN, seqN, doN, fldN, putFD, cmpF, addF, intF, lenF, tupleF, listF, max2F, min2F, int1F, asB, asI, asS, lrOf, seqOf, negF, kbTy, tyName, noO, someO, cutA, sl3, cutF, cutLF, keepsB, freeE, noEx, SV.isO, SV.isB, OV.toD, finD, yes2, fld_bells, inF_tS, tst, ha]
  have hc : compF [2, 3] (itA (fldD ("Web" : Str) ("wakes" : Str) (nameD 0))) (setTup 2 (setCons (setD 2) (setCons (setD 3) setNil))) (valT (bin2 (pur2 (eqF false)) (nameD 2) (nameD 1))) (nameD 3) [.dat (webD l w), .dat (.str a), .un, .un] = .ok ((w.filter fun p => decide (p.1 = a)).map fun p => .str p.2) [.dat (webD l w), .dat (.str a), .un, .un] := by
    refine compF_map (f := dP) (by simp [nameD, constD, bin2, un1, pur2, pur1, consA, nilA, tupD, lstF, heldD, callD, one, seqS, ifS, retS, retNS, dropS, asgS, asgOS, parS, parT, andT, orT, notT, valT, blOf, andD, orD, notD, ifD, chainD, fldD, isiD, itA, itT, itS, itL, itEA, itET, itE, itR1, itR2, nextS, neverS, yesT, setD, setCons, setNil, setTup, appS, storeS, ownIx, ownUse, consRd, consRr, nilR, callS, fnCall, methS, mkCall, posA, kwA, consMd, consMf, nilM, newL, setAll, refsB, refsOf, nodupB, svsOf, putBack, ovOf, putOv, lstOf, backA, callFS, fnCallF, callLS, fnCallL, seqL, thenL, retL, ifL, nilL, nilN, seqN, doN, fldN, putFD, cmpF, addF, intF, lenF, tupleF, listF, max2F, min2F, int1F, asB, asI, asS, lrOf, seqOf, negF, kbTy, tyName, noO, someO, cutA, sl3, cutF, cutLF, keepsB, freeE, noEx, SV.isO, SV.isB, OV.toD, finD, yes2, fld_wakes]) rfl hz rfl fun p m => ⟨[.dat (webD l w), .dat (.str a), .dat (.str p.1), .dat (.str p.2)], rfl, rfl, rfl, ?_, fun _ => rfl⟩
    have e1 := eqF_str false (h.sok _ (hw.mem p m).1) (h.sok _ ha)
    simp [nameD, constD, bin2, un1, pur2, pur1, consA, nilA, tupD, lstF, heldD, callD, one, seqS, ifS, retS, retNS, dropS, asgS, asgOS, parS, parT, andT, orT, notT, valT, blOf, andD, orD, notD, ifD, chainD, fldD, isiD, itA, itT, itS, itL, itEA, itET, itE, itR1, itR2, nextS, neverS, yesT, setD, setCons, setNil, setTup, appS, storeS, ownIx, ownUse, consRd, consRr, nilR, callS, fnCall, methS, mkCall, posA, kwA, consMd, consMf, nilM, newL, setAll, refsB, refsOf, nodupB, svsOf, putBack, ovOf, putOv, lstOf, backA, callFS, fnCallF, callLS, fnCallL, seqL, thenL, retL, ifL, nilL, nilN, seqN, doN, fldN, putFD, cmpF, addF, intF, lenF, tupleF, listF, max2F, min2F, int1F, asB, asI, asS, lrOf, seqOf, negF, kbTy, tyName, noO, someO, cutA, sl3, cutF, cutLF, keepsB, freeE, noEx, SV.isO, SV.isB, OV.toD, finD, yes2, e1, tst]
  refine Wp.out (fn_wp ?_)
  unfold b_Web_woken
  refine wp_seq (wp_eq (a := .nx) (e := [.dat (webD l w), .dat (.str a), .un, .un]) ?_ ?_)
  · simp [nameD, constD, bin2, un1, pur2, pur1, consA, nilA, tupD, lstF, heldD, callD, one, seqS, ifS, retS, retNS, dropS, asgS, asgOS, parS, parT, andT, orT, notT, valT, blOf, andD, orD, notD, ifD, chainD, fldD, isiD, itA, itT, itS, itL, itEA, itET, itE, itR1, itR2, nextS, neverS, yesT, setD, setCons, setNil, setTup, appS, storeS, ownIx, ownUse, consRd, consRr, nilR, callS, fnCall, methS, mkCall, posA, kwA, consMd, consMf, nilM, newL, setAll, refsB, refsOf, nodupB, svsOf, putBack, ovOf, putOv, lstOf, backA, callFS, fnCallF, callLS, fnCallL, seqL, thenL, retL, ifL, nilL, nilN, seqN, doN, fldN, putFD, cmpF, addF, intF, lenF, tupleF, listF, max2F, min2F, int1F, asB, asI, asS, lrOf, seqOf, negF, kbTy, tyName, noO, someO, cutA, sl3, cutF, cutLF, keepsB, freeE, noEx, SV.isO, SV.isB, OV.toD, finD, yes2, hb]
  refine wp_seq (wp_eq (a := .rt (.tup (((w.filter fun p => decide (p.1 = a)).map (·.2)).map .str))) (e := [.dat (webD l w), .dat (.str a), .un, .un]) ?_ ⟨rfl, rfl⟩)
  simp only [nameD, constD, bin2, un1, pur2, pur1, consA, nilA, tupD, lstF, heldD, callD, one, seqS, ifS, retS, retNS, dropS, asgS, asgOS, parS, parT, andT, orT, notT, valT, blOf, andD, orD, notD, ifD, chainD, fldD, isiD, itA, itT, itS, itL, itEA, itET, itE, itR1, itR2, nextS, neverS, yesT, setD, setCons, setNil, setTup, appS, storeS, ownIx, ownUse, consRd, consRr, nilR, callS, fnCall, methS, mkCall, posA, kwA, consMd, consMf, nilM, newL, setAll, refsB, refsOf, nodupB, svsOf, putBack, ovOf, putOv, lstOf, backA, callFS, fnCallF, callLS, fnCallL, seqL, thenL, retL, ifL, nilL, nilN, seqN, doN, fldN, putFD, cmpF, addF, intF, lenF, tupleF, listF, max2F, min2F, int1F, asB, asI, asS, lrOf, seqOf, negF, kbTy, tyName, noO, someO, cutA, sl3, cutF, cutLF, keepsB, freeE, noEx, SV.isO, SV.isB, OV.toD, finD, yes2, bind_ok]
  rw [hc]
  simp [nameD, constD, bin2, un1, pur2, pur1, consA, nilA, tupD, lstF, heldD, callD, one, seqS, ifS, retS, retNS, dropS, asgS, asgOS, parS, parT, andT, orT, notT, valT, blOf, andD, orD, notD, ifD, chainD, fldD, isiD, itA, itT, itS, itL, itEA, itET, itE, itR1, itR2, nextS, neverS, yesT, setD, setCons, setNil, setTup, appS, storeS, ownIx, ownUse, consRd, consRr, nilR, callS, fnCall, methS, mkCall, posA, kwA, consMd, consMf, nilM, newL, setAll, refsB, refsOf, nodupB, svsOf, putBack, ovOf, putOv, lstOf, backA, callFS, fnCallF, callLS, fnCallL, seqL, thenL, retL, ifL, nilL, nilN, seqN, doN, fldN, putFD, cmpF, addF, intF, lenF, tupleF, listF, max2F, min2F, int1F, asB, asI, asS, lrOf, seqOf, negF, kbTy, tyName, noO, someO, cutA, sl3, cutF, cutLF, keepsB, freeE, noEx, SV.isO, SV.isB, OV.toD, finD, yes2]
theorem wakers_ok {l : List Str} {w : List (Str × Str)} {a : Str} (h : Bl l) (hw : Wk l w) (ha : a ∈ l) : f_Web_wakers [.dat (webD l w), .dat (.str a)] = .ok (.tup (((w.filter fun p => decide (p.2 = a)).map (·.1)).map .str)) [.dat (webD l w), .dat (.str a)] := by
  have hz : w.length ≤ sizeLine := Nat.le_trans hw.len (by decide)
  have hb : f_check_bell [.dat (webD l w), .dat (.str a)] = .ok .non [.dat (webD l w), .dat (.str a)] := by
    refine Wp.out (fn_wp ?_)
    unfold b_check_bell
    refine wp_seq (wp_eq (a := .nx) (e := [.dat (webD l w), .dat (.str a)]) ?_ (wp_nx.mpr ⟨rfl, rfl⟩))
    simp [nameD, constD, bin2, un1, pur2, pur1, consA, nilA, tupD, lstF, heldD, callD, one, seqS, ifS, retS, retNS, dropS, asgS, asgOS, parS, parT, andT, orT, notT, valT, blOf, andD, orD, notD, ifD, chainD, fldD, isiD, itA, itT, itS, itL, itEA, itET, itE, itR1, itR2, nextS, neverS, yesT, setD, setCons, setNil, setTup, appS, storeS, ownIx, ownUse, consRd, consRr, nilR, callS, fnCall, methS, mkCall, posA, kwA, consMd, consMf, nilM, newL, setAll, refsB, refsOf, nodupB, svsOf, putBack, ovOf, putOv, lstOf, backA, callFS, fnCallF, callLS, fnCallL, seqL, thenL, retL, ifL, nilL, nilN, seqN, doN, fldN, putFD, cmpF, addF, intF, lenF, tupleF, listF, max2F, min2F, int1F, asB, asI, asS, lrOf, seqOf, negF, kbTy, tyName, noO, someO, cutA, sl3, cutF, cutLF, keepsB, freeE, noEx, SV.isO, SV.isB, OV.toD, finD, yes2, fld_bells, inF_tS, tst, ha]
  have hc : compF [2, 3] (itA (fldD ("Web" : Str) ("wakes" : Str) (nameD 0))) (setTup 2 (setCons (setD 2) (setCons (setD 3) setNil))) (valT (bin2 (pur2 (eqF false)) (nameD 3) (nameD 1))) (nameD 2) [.dat (webD l w), .dat (.str a), .un, .un] = .ok ((w.filter fun p => decide (p.2 = a)).map fun p => .str p.1) [.dat (webD l w), .dat (.str a), .un, .un] := by
    refine compF_map (f := dP) (by simp [nameD, constD, bin2, un1, pur2, pur1, consA, nilA, tupD, lstF, heldD, callD, one, seqS, ifS, retS, retNS, dropS, asgS, asgOS, parS, parT, andT, orT, notT, valT, blOf, andD, orD, notD, ifD, chainD, fldD, isiD, itA, itT, itS, itL, itEA, itET, itE, itR1, itR2, nextS, neverS, yesT, setD, setCons, setNil, setTup, appS, storeS, ownIx, ownUse, consRd, consRr, nilR, callS, fnCall, methS, mkCall, posA, kwA, consMd, consMf, nilM, newL, setAll, refsB, refsOf, nodupB, svsOf, putBack, ovOf, putOv, lstOf, backA, callFS, fnCallF, callLS, fnCallL, seqL, thenL, retL, ifL, nilL, nilN, seqN, doN, fldN, putFD, cmpF, addF, intF, lenF, tupleF, listF, max2F, min2F, int1F, asB, asI, asS, lrOf, seqOf, negF, kbTy, tyName, noO, someO, cutA, sl3, cutF, cutLF, keepsB, freeE, noEx, SV.isO, SV.isB, OV.toD, finD, yes2, fld_wakes]) rfl hz rfl fun p m => ⟨[.dat (webD l w), .dat (.str a), .dat (.str p.1), .dat (.str p.2)], rfl, rfl, rfl, ?_, fun _ => rfl⟩
    have e1 := eqF_str false (h.sok _ (hw.mem p m).2) (h.sok _ ha)
    simp [nameD, constD, bin2, un1, pur2, pur1, consA, nilA, tupD, lstF, heldD, callD, one, seqS, ifS, retS, retNS, dropS, asgS, asgOS, parS, parT, andT, orT, notT, valT, blOf, andD, orD, notD, ifD, chainD, fldD, isiD, itA, itT, itS, itL, itEA, itET, itE, itR1, itR2, nextS, neverS, yesT, setD, setCons, setNil, setTup, appS, storeS, ownIx, ownUse, consRd, consRr, nilR, callS, fnCall, methS, mkCall, posA, kwA, consMd, consMf, nilM, newL, setAll, refsB, refsOf, nodupB, svsOf, putBack, ovOf, putOv, lstOf, backA, callFS, fnCallF, callLS, fnCallL, seqL, thenL, retL, ifL, nilL, nilN, seqN, doN, fldN, putFD, cmpF, addF, intF, lenF, tupleF, listF, max2F, min2F, int1F, asB, asI, asS, lrOf, seqOf, negF, kbTy, tyName, noO, someO, cutA, sl3, cutF, cutLF, keepsB, freeE, noEx, SV.isO, SV.isB, OV.toD, finD, yes2, e1, tst]
  refine Wp.out (fn_wp ?_)
  unfold b_Web_wakers
  refine wp_seq (wp_eq (a := .nx) (e := [.dat (webD l w), .dat (.str a), .un, .un]) ?_ ?_)
  · simp [nameD, constD, bin2, un1, pur2, pur1, consA, nilA, tupD, lstF, heldD, callD, one, seqS, ifS, retS, retNS, dropS, asgS, asgOS, parS, parT, andT, orT, notT, valT, blOf, andD, orD, notD, ifD, chainD, fldD, isiD, itA, itT, itS, itL, itEA, itET, itE, itR1, itR2, nextS, neverS, yesT, setD, setCons, setNil, setTup, appS, storeS, ownIx, ownUse, consRd, consRr, nilR, callS, fnCall, methS, mkCall, posA, kwA, consMd, consMf, nilM, newL, setAll, refsB, refsOf, nodupB, svsOf, putBack, ovOf, putOv, lstOf, backA, callFS, fnCallF, callLS, fnCallL, seqL, thenL, retL, ifL, nilL, nilN, seqN, doN, fldN, putFD, cmpF, addF, intF, lenF, tupleF, listF, max2F, min2F, int1F, asB, asI, asS, lrOf, seqOf, negF, kbTy, tyName, noO, someO, cutA, sl3, cutF, cutLF, keepsB, freeE, noEx, SV.isO, SV.isB, OV.toD, finD, yes2, hb]
  refine wp_seq (wp_eq (a := .rt (.tup (((w.filter fun p => decide (p.2 = a)).map (·.1)).map .str))) (e := [.dat (webD l w), .dat (.str a), .un, .un]) ?_ ⟨rfl, rfl⟩)
  simp only [nameD, constD, bin2, un1, pur2, pur1, consA, nilA, tupD, lstF, heldD, callD, one, seqS, ifS, retS, retNS, dropS, asgS, asgOS, parS, parT, andT, orT, notT, valT, blOf, andD, orD, notD, ifD, chainD, fldD, isiD, itA, itT, itS, itL, itEA, itET, itE, itR1, itR2, nextS, neverS, yesT, setD, setCons, setNil, setTup, appS, storeS, ownIx, ownUse, consRd, consRr, nilR, callS, fnCall, methS, mkCall, posA, kwA, consMd, consMf, nilM, newL, setAll, refsB, refsOf, nodupB, svsOf, putBack, ovOf, putOv, lstOf, backA, callFS, fnCallF, callLS, fnCallL, seqL, thenL, retL, ifL, nilL, nilN, seqN, doN, fldN, putFD, cmpF, addF, intF, lenF, tupleF, listF, max2F, min2F, int1F, asB, asI, asS, lrOf, seqOf, negF, kbTy, tyName, noO, someO, cutA, sl3, cutF, cutLF, keepsB, freeE, noEx, SV.isO, SV.isB, OV.toD, finD, yes2, bind_ok]
  rw [hc]
  simp [nameD, constD, bin2, un1, pur2, pur1, consA, nilA, tupD, lstF, heldD, callD, one, seqS, ifS, retS, retNS, dropS, asgS, asgOS, parS, parT, andT, orT, notT, valT, blOf, andD, orD, notD, ifD, chainD, fldD, isiD, itA, itT, itS, itL, itEA, itET, itE, itR1, itR2, nextS, neverS, yesT, setD, setCons, setNil, setTup, appS, storeS, ownIx, ownUse, consRd, consRr, nilR, callS, fnCall, methS, mkCall, posA, kwA, consMd, consMf, nilM, newL, setAll, refsB, refsOf, nodupB, svsOf, putBack, ovOf, putOv, lstOf, backA, callFS, fnCallF, callLS, fnCallL, seqL, thenL, retL, ifL, nilL, nilN, seqN, doN, fldN, putFD, cmpF, addF, intF, lenF, tupleF, listF, max2F, min2F, int1F, asB, asI, asS, lrOf, seqOf, negF, kbTy, tyName, noO, someO, cutA, sl3, cutF, cutLF, keepsB, freeE, noEx, SV.isO, SV.isB, OV.toD, finD, yes2]
theorem eq_ok {l l' : List Str} {w w' : List (Str × Str)} (h : Bl l) (hw : Wk l w) (h' : Bl l') (hw' : Wk l' w') : f_Web_eq [.dat (webD l w), .dat (webD l' w')] = .ok (.bl (decide (l = l') && decide (w = w'))) [.dat (webD l w), .dat (webD l' w')] := by
  have e1 := eqF_tS false h.sok h'.sok
  have e2 := eqF_tP false (fun p m => ⟨h.sok _ (hw.mem p m).1, h.sok _ (hw.mem p m).2⟩) (fun p m => ⟨h'.sok _ (hw'.mem p m).1, h'.sok _ (hw'.mem p m).2⟩)
  have e3 : isiD (fun _ => none) (fun n => if n = ("Web" : Str) then some true else none) (nameD 1) [.dat (webD l w), .dat (webD l' w')] = .ok (.bl true) [.dat (webD l w), .dat (webD l' w')] := rfl
  refine Wp.out (fn_wp ?_)
  unfold b_Web_eq
  refine wp_seq (wp_eq (a := .rt (.bl (decide (l = l') && decide (w = w')))) (e := [.dat (webD l w), .dat (webD l' w')]) ?_ ⟨rfl, rfl⟩)
  show retS _ [.dat (webD l w), .dat (webD l' w')] = _
  unfold retS andD
  rw [e3]
  simp [nameD, constD, bin2, un1, pur2, pur1, consA, nilA, tupD, lstF, heldD, callD, one, seqS, ifS, retS, retNS, dropS, asgS, asgOS, parS, parT, andT, orT, notT, valT, blOf, andD, orD, notD, ifD, chainD, fldD, isiD, itA, itT, itS, itL, itEA, itET, itE, itR1, itR2, nextS, neverS, yesT, setD, setCons, setNil, setTup, appS, storeS, ownIx, ownUse, consRd, consRr, nilR, callS, fnCall, methS, mkCall, posA, kwA, consMd, consMf, nilM, newL, setAll, refsB, refsOf, nodupB, svsOf, putBack, ovOf, putOv, lstOf, backA, callFS, fnCallF, callLS, fnCallL, seqL, thenL, retL, ifL, nilL, nilN, seqN, doN, fldN, putFD, cmpF, addF, intF, lenF, tupleF, listF, max2F, min2F, int1F, asB, asI, asS, lrOf, seqOf, negF, kbTy, tyName, noO, someO, cutA, sl3, cutF, cutLF, keepsB, freeE, noEx, SV.isO, SV.isB, OV.toD, finD, yes2, fld_bells, fld_wakes, e1, e2, tst]
  by_cases q : l = l' <;> simp [q, nameD, constD, bin2, un1, pur2, pur1, consA, nilA, tupD, lstF, heldD, callD, one, seqS, ifS, retS, retNS, dropS, asgS, asgOS, parS, parT, andT, orT, notT, valT, blOf, andD, orD, notD, ifD, chainD, fldD, isiD, itA, itT, itS, itL, itEA, itET, itE, itR1, itR2, nextS, neverS, yesT, setD, setCons, setNil, setTup, appS, storeS, ownIx, ownUse, consRd, consRr, nilR, callS, fnCall, methS, mkCall, posA, kwA, consMd, consMf, nilM, newL, setAll, refsB, refsOf, nodupB, svsOf, putBack, ovOf, putOv, lstOf, backA, callFS, fnCallF, callLS, fnCallL, seqL, thenL, retL, ifL, nilL, nilN, seqN, doN, fldN, putFD, cmpF, addF, intF, lenF, tupleF, listF, max2F, min2F, int1F, asB, asI, asS, lrOf, seqOf, negF, kbTy, tyName, noO, someO, cutA, sl3, cutF, cutLF, keepsB, freeE, noEx, SV.isO, SV.isB, OV.toD, finD, yes2]
/-- the web of some of the bells -/
def ow (m : List Str) (w : List (Str × Str)) : List (Str × Str) := w.filter fun p => decide (p.1 ∈ m) && decide (p.2 ∈ m)
theorem wk_ow {l m : List Str} {w : List (Str × Str)} (hw : Wk l w) : Wk m (ow m w) := by
  refine ⟨fun p q => ?_, hw.ri.filter _, Nat.le_trans (List.length_filter_le _ _) hw.len⟩
  have := (List.mem_filter.mp q).2
  simpa using this
theorem only_ok {l m : List Str} {w : List (Str × Str)} (h : Bl l) (hw : Wk l w) (hm : Bl m) (sub : ∀ s ∈ m, s ∈ l) : f_Web_only [.dat (webD l w), .dat (.tup (m.map .str))] = .ok (webD m (ow m w)) [.dat (webD l w), .dat (.tup (m.map .str))] := by
  have hz : w.length ≤ sizeLine := Nat.le_trans hw.len (by decide)
  have hn : (1 : Int) ≤ (m.length : Int) := by have := hm.lo; omega
  have hx : (m.length : Int) ≤ 12 := by have := hm.hi; omega
  refine Wp.out (fn_wp ?_)
  unfold b_Web_only
  refine wp_seq (wp_eq (a := .nx) (e := [.dat (webD l w), .dat (.tup (m.map .str)), .un, .un, .un]) ?_ ?_)
  · simp [nameD, constD, bin2, un1, pur2, pur1, consA, nilA, tupD, lstF, heldD, callD, one, seqS, ifS, retS, retNS, dropS, asgS, asgOS, parS, parT, andT, orT, notT, valT, blOf, andD, orD, notD, ifD, chainD, fldD, isiD, itA, itT, itS, itL, itEA, itET, itE, itR1, itR2, nextS, neverS, yesT, setD, setCons, setNil, setTup, appS, storeS, ownIx, ownUse, consRd, consRr, nilR, callS, fnCall, methS, mkCall, posA, kwA, consMd, consMf, nilM, newL, setAll, refsB, refsOf, nodupB, svsOf, putBack, ovOf, putOv, lstOf, backA, callFS, fnCallF, callLS, fnCallL, seqL, thenL, retL, ifL, nilL, nilN, seqN, doN, fldN, putFD, cmpF, addF, intF, lenF, tupleF, listF, max2F, min2F, int1F, asB, asI, asS, lrOf, seqOf, negF, kbTy, tyName, noO, someO, cutA, sl3, cutF, cutLF, keepsB, freeE, noEx, SV.isO, SV.isB, OV.toD, finD, yes2, hn, hx]
  refine wp_seq (wp_for (fun _ e => ∃ s1 s2, e = [.dat (webD l w), .dat (.tup (m.map .str)), s1, s2, .un] ∧ s1.isO = false ∧ s2.isO = false) (enL (m.map .str)) _ rfl ⟨_, _, rfl, rfl, rfl⟩ ?_ ?_)
  · rintro i d e hd ⟨s1, s2, rfl, h1, h2⟩
    obtain ⟨x, hx, rfl⟩ := enL_at hd
    rw [List.getElem?_map] at hx
    cases hs : m[i]? with
    | none => rw [hs] at hx; cases hx
    | some s =>
      rw [hs] at hx; cases hx
      have ms := List.mem_of_getElem? hs
      have ns := is_name_ok (hm.nm s ms)
      refine ⟨[.dat (webD l w), .dat (.tup (m.map .str)), .dat (.int i), .dat (.str s), .un], ?_, ?_, ?_⟩
      · cases s1 <;> cases s2 <;> first | rfl | (exact Bool.noConfusion h1) | (exact Bool.noConfusion h2)
      · cases s1 <;> cases s2 <;> first | rfl | (exact Bool.noConfusion h1) | (exact Bool.noConfusion h2)
      · refine wp_seq (wp_eq (a := .nx) (e := [.dat (webD l w), .dat (.tup (m.map .str)), .dat (.int i), .dat (.str s), .un]) ?_ (wp_nx.mpr ⟨rfl, _, _, rfl, rfl, rfl⟩))
        simp [nameD, constD, bin2, un1, pur2, pur1, consA, nilA, tupD, lstF, heldD, callD, one, seqS, ifS, retS, retNS, dropS, asgS, asgOS, parS, parT, andT, orT, notT, valT, blOf, andD, orD, notD, ifD, chainD, fldD, isiD, itA, itT, itS, itL, itEA, itET, itE, itR1, itR2, nextS, neverS, yesT, setD, setCons, setNil, setTup, appS, storeS, ownIx, ownUse, consRd, consRr, nilR, callS, fnCall, methS, mkCall, posA, kwA, consMd, consMf, nilM, newL, setAll, refsB, refsOf, nodupB, svsOf, putBack, ovOf, putOv, lstOf, backA, callFS, fnCallF, callLS, fnCallL, seqL, thenL, retL, ifL, nilL, nilN, seqN, doN, fldN, putFD, cmpF, addF, intF, lenF, tupleF, listF, max2F, min2F, int1F, asB, asI, asS, lrOf, seqOf, negF, kbTy, tyName, noO, someO, cutA, sl3, cutF, cutLF, keepsB, freeE, noEx, SV.isO, SV.isB, OV.toD, finD, yes2, ns, fld_bells, inF_tS, tst, sub s ms]
        cases i with
        | zero => simp [nameD, constD, bin2, un1, pur2, pur1, consA, nilA, tupD, lstF, heldD, callD, one, seqS, ifS, retS, retNS, dropS, asgS, asgOS, parS, parT, andT, orT, notT, valT, blOf, andD, orD, notD, ifD, chainD, fldD, isiD, itA, itT, itS, itL, itEA, itET, itE, itR1, itR2, nextS, neverS, yesT, setD, setCons, setNil, setTup, appS, storeS, ownIx, ownUse, consRd, consRr, nilR, callS, fnCall, methS, mkCall, posA, kwA, consMd, consMf, nilM, newL, setAll, refsB, refsOf, nodupB, svsOf, putBack, ovOf, putOv, lstOf, backA, callFS, fnCallF, callLS, fnCallL, seqL, thenL, retL, ifL, nilL, nilN, seqN, doN, fldN, putFD, cmpF, addF, intF, lenF, tupleF, listF, max2F, min2F, int1F, asB, asI, asS, lrOf, seqOf, negF, kbTy, tyName, noO, someO, cutA, sl3, cutF, cutLF, keepsB, freeE, noEx, SV.isO, SV.isB, OV.toD, finD, yes2]
        | succ i =>
          have hi : i < m.length := by have := (List.getElem?_eq_some_iff.mp hs).1; omega
          have hp : m[i]? = some m[i] := by simp [hi]
          have hlt := Ri.step hm.ri hp hs
          have hix : ixF (.tup (m.map .str)) (.int (((i : Nat) : Int))) = some (.str m[i]) := ix_tup (by rw [List.getElem?_map, hp]; rfl)
          have hpos : (0 : Int) < ((i : Nat) : Int) + 1 := by omega
          simp [nameD, constD, bin2, un1, pur2, pur1, consA, nilA, tupD, lstF, heldD, callD, one, seqS, ifS, retS, retNS, dropS, asgS, asgOS, parS, parT, andT, orT, notT, valT, blOf, andD, orD, notD, ifD, chainD, fldD, isiD, itA, itT, itS, itL, itEA, itET, itE, itR1, itR2, nextS, neverS, yesT, setD, setCons, setNil, setTup, appS, storeS, ownIx, ownUse, consRd, consRr, nilR, callS, fnCall, methS, mkCall, posA, kwA, consMd, consMf, nilM, newL, setAll, refsB, refsOf, nodupB, svsOf, putBack, ovOf, putOv, lstOf, backA, callFS, fnCallF, callLS, fnCallL, seqL, thenL, retL, ifL, nilL, nilN, seqN, doN, fldN, putFD, cmpF, addF, intF, lenF, tupleF, listF, max2F, min2F, int1F, asB, asI, asS, lrOf, seqOf, negF, kbTy, tyName, noO, someO, cutA, sl3, cutF, cutLF, keepsB, freeE, noEx, SV.isO, SV.isB, OV.toD, finD, yes2, hpos, hix, leA_str, hlt]
  · rintro e' ⟨s1, s2, rfl, h1, h2⟩
    have hc : compF [4] (itA (fldD ("Web" : Str) ("wakes" : Str) (nameD 0))) (setD 4) (andT (valT (bin2 (pur2 (inF false)) (bin2 (pur2 ixF) (nameD 4) (constD (.int 0))) (nameD 1))) (valT (bin2 (pur2 (inF false)) (bin2 (pur2 ixF) (nameD 4) (constD (.int 1))) (nameD 1)))) (nameD 4) [.dat (webD l w), .dat (.tup (m.map .str)), s1, s2, .un] = .ok ((ow m w).map dP) [.dat (webD l w), .dat (.tup (m.map .str)), s1, s2, .un] := by
      refine compF_map (f := dP) (by simp [nameD, constD, bin2, un1, pur2, pur1, consA, nilA, tupD, lstF, heldD, callD, one, seqS, ifS, retS, retNS, dropS, asgS, asgOS, parS, parT, andT, orT, notT, valT, blOf, andD, orD, notD, ifD, chainD, fldD, isiD, itA, itT, itS, itL, itEA, itET, itE, itR1, itR2, nextS, neverS, yesT, setD, setCons, setNil, setTup, appS, storeS, ownIx, ownUse, consRd, consRr, nilR, callS, fnCall, methS, mkCall, posA, kwA, consMd, consMf, nilM, newL, setAll, refsB, refsOf, nodupB, svsOf, putBack, ovOf, putOv, lstOf, backA, callFS, fnCallF, callLS, fnCallL, seqL, thenL, retL, ifL, nilL, nilN, seqN, doN, fldN, putFD, cmpF, addF, intF, lenF, tupleF, listF, max2F, min2F, int1F, asB, asI, asS, lrOf, seqOf, negF, kbTy, tyName, noO, someO, cutA, sl3, cutF, cutLF, keepsB, freeE, noEx, SV.isO, SV.isB, OV.toD, finD, yes2, fld_wakes]) rfl hz rfl fun p q => ⟨[.dat (webD l w), .dat (.tup (m.map .str)), s1, s2, .dat (dP p)], rfl, rfl, rfl, ?_, fun _ => rfl⟩
      have e0 : ixF (dP p) (.int 0) = some (.str p.1) := rfl
      have e1 : ixF (dP p) (.int 1) = some (.str p.2) := rfl
      simp [nameD, constD, bin2, un1, pur2, pur1, consA, nilA, tupD, lstF, heldD, callD, one, seqS, ifS, retS, retNS, dropS, asgS, asgOS, parS, parT, andT, orT, notT, valT, blOf, andD, orD, notD, ifD, chainD, fldD, isiD, itA, itT, itS, itL, itEA, itET, itE, itR1, itR2, nextS, neverS, yesT, setD, setCons, setNil, setTup, appS, storeS, ownIx, ownUse, consRd, consRr, nilR, callS, fnCall, methS, mkCall, posA, kwA, consMd, consMf, nilM, newL, setAll, refsB, refsOf, nodupB, svsOf, putBack, ovOf, putOv, lstOf, backA, callFS, fnCallF, callLS, fnCallL, seqL, thenL, retL, ifL, nilL, nilN, seqN, doN, fldN, putFD, cmpF, addF, intF, lenF, tupleF, listF, max2F, min2F, int1F, asB, asI, asS, lrOf, seqOf, negF, kbTy, tyName, noO, someO, cutA, sl3, cutF, cutLF, keepsB, freeE, noEx, SV.isO, SV.isB, OV.toD, finD, yes2, e0, e1, inF_tS, tst]
      by_cases q1 : p.1 ∈ m <;> simp [q1]
    have hi := init_ok hm (wk_ow (m := m) hw)
    refine wp_seq (wp_eq (a := .rt (webD m (ow m w))) (e := [.dat (webD l w), .dat (.tup (m.map .str)), s1, s2, .un]) ?_ ⟨rfl, rfl⟩)
    simp [nameD, constD, bin2, un1, pur2, pur1, consA, nilA, tupD, lstF, heldD, callD, one, seqS, ifS, retS, retNS, dropS, asgS, asgOS, parS, parT, andT, orT, notT, valT, blOf, andD, orD, notD, ifD, chainD, fldD, isiD, itA, itT, itS, itL, itEA, itET, itE, itR1, itR2, nextS, neverS, yesT, setD, setCons, setNil, setTup, appS, storeS, ownIx, ownUse, consRd, consRr, nilR, callS, fnCall, methS, mkCall, posA, kwA, consMd, consMf, nilM, newL, setAll, refsB, refsOf, nodupB, svsOf, putBack, ovOf, putOv, lstOf, backA, callFS, fnCallF, callLS, fnCallL, seqL, thenL, retL, ifL, nilL, nilN, seqN, doN, fldN, putFD, cmpF, addF, intF, lenF, tupleF, listF, max2F, min2F, int1F, asB, asI, asS, lrOf, seqOf, negF, kbTy, tyName, noO, someO, cutA, sl3, cutF, cutLF, keepsB, freeE, noEx, SV.isO, SV.isB, OV.toD, finD, yes2, fld_bells]
    rw [hc]
    simp [nameD, constD, bin2, un1, pur2, pur1, consA, nilA, tupD, lstF, heldD, callD, one, seqS, ifS, retS, retNS, dropS, asgS, asgOS, parS, parT, andT, orT, notT, valT, blOf, andD, orD, notD, ifD, chainD, fldD, isiD, itA, itT, itS, itL, itEA, itET, itE, itR1, itR2, nextS, neverS, yesT, setD, setCons, setNil, setTup, appS, storeS, ownIx, ownUse, consRd, consRr, nilR, callS, fnCall, methS, mkCall, posA, kwA, consMd, consMf, nilM, newL, setAll, refsB, refsOf, nodupB, svsOf, putBack, ovOf, putOv, lstOf, backA, callFS, fnCallF, callLS, fnCallL, seqL, thenL, retL, ifL, nilL, nilN, seqN, doN, fldN, putFD, cmpF, addF, intF, lenF, tupleF, listF, max2F, min2F, int1F, asB, asI, asS, lrOf, seqOf, negF, kbTy, tyName, noO, someO, cutA, sl3, cutF, cutLF, keepsB, freeE, noEx, SV.isO, SV.isB, OV.toD, finD, yes2, hi, webD]
/-! ### the plain law: woken, wakers, parts -/
def wok (w : List (Str × Str)) (a : Str) : List Str := (w.filter fun p => decide (p.1 = a)).map (·.2)
def wak (w : List (Str × Str)) (a : Str) : List Str := (w.filter fun p => decide (p.2 = a)).map (·.1)
theorem mem_wok {w : List (Str × Str)} {a x : Str} : x ∈ wok w a ↔ (a, x) ∈ w := by
  unfold wok
  simp only [List.mem_map, List.mem_filter, decide_eq_true_eq]
  constructor
  · rintro ⟨⟨p, q⟩, ⟨m, e⟩, e2⟩
    dsimp only at e e2
    rw [← e, ← e2]; exact m
  · intro m; exact ⟨(a, x), ⟨m, rfl⟩, rfl⟩
theorem mem_wak {w : List (Str × Str)} {a x : Str} : x ∈ wak w a ↔ (x, a) ∈ w := by
  unfold wak
  simp only [List.mem_map, List.mem_filter, decide_eq_true_eq]
  constructor
  · rintro ⟨⟨p, q⟩, ⟨m, e⟩, e2⟩
    dsimp only at e e2
    rw [← e, ← e2]; exact m
  · intro m; exact ⟨(x, a), ⟨m, rfl⟩, rfl⟩
theorem ri_wok {w : List (Str × Str)} (h : Ri ltP w) (a : Str) : Ri ltS (wok w a) := by
  unfold wok Ri
  rw [List.pairwise_map]
  have h1 : (w.filter fun p => decide (p.1 = a)).Pairwise fun p q => ltP p q = true := h.filter _
  refine List.Pairwise.imp_of_mem ?_ h1
  intro p q mp mq k
  have e1 := (List.mem_filter.mp mp).2
  have e2 := (List.mem_filter.mp mq).2
  simp only [decide_eq_true_eq] at e1 e2
  simp only [ltP, e1, e2, ltS_irr, Bool.false_or, decide_true, Bool.true_and] at k
  exact k
theorem ri_wak {w : List (Str × Str)} (h : Ri ltP w) (a : Str) : Ri ltS (wak w a) := by
  unfold wak Ri
  rw [List.pairwise_map]
  have h1 : (w.filter fun p => decide (p.2 = a)).Pairwise fun p q => ltP p q = true := h.filter _
  refine List.Pairwise.imp_of_mem ?_ h1
  intro p q mp mq k
  have e1 := (List.mem_filter.mp mp).2
  have e2 := (List.mem_filter.mp mq).2
  simp only [decide_eq_true_eq] at e1 e2
  simp only [ltP, e1, e2, ltS_irr, Bool.and_false, Bool.or_false] at k
  exact k
theorem ri_tw {w : List (Str × Str)} (h : Ri ltP w) : Ri ltP (tw w) := srt_ri ordP (nodup_swap (h.nodup ordP))
theorem wok_tw {w : List (Str × Str)} (h : Ri ltP w) (a : Str) : wok (tw w) a = wak w a := (ri_wok (ri_tw h) a).eq ordS (ri_wak h a) fun x => by
  rw [mem_wok, mem_wak, mem_tw]; rfl
theorem wak_tw {w : List (Str × Str)} (h : Ri ltP w) (a : Str) : wak (tw w) a = wok w a := (ri_wak (ri_tw h) a).eq ordS (ri_wok h a) fun x => by
  rw [mem_wok, mem_wak, mem_tw]; rfl
theorem tw_tw {w : List (Str × Str)} (h : Ri ltP w) : tw (tw w) = w := (ri_tw (ri_tw h)).eq ordP h fun x => by
  rw [mem_tw, mem_tw, Prod.swap_swap]
theorem ow_self {l : List Str} {w : List (Str × Str)} (h : Wk l w) : ow l w = w := by
  unfold ow
  refine List.filter_eq_self.mpr fun p m => ?_
  have := h.mem p m
  simp [this.1, this.2]
theorem filter_one {α : Type} [DecidableEq α] : ∀ {w : List α} (x : α), w.Nodup → (w.filter fun p => decide (p = x)).length = if x ∈ w then 1 else 0
  | [], x, _ => by simp
  | y :: w, x, h => by
    obtain ⟨h1, h2⟩ := List.nodup_cons.mp h
    have ih := filter_one x h2
    by_cases e : y = x
    · subst e
      rw [if_neg h1] at ih
      simp [ih]
    · have e' : ¬ x = y := fun z => e z.symm
      simp [e, e', ih]
theorem len_ow1 {w : List (Str × Str)} (h : Ri ltP w) (a : Str) : (ow [a] w).length = if (a, a) ∈ w then 1 else 0 := by
  have e : ow [a] w = w.filter fun p => decide (p = (a, a)) := by
    unfold ow
    refine List.filter_congr fun p _ => ?_
    obtain ⟨x, y⟩ := p
    simp
  rw [e, filter_one (a, a) (h.nodup ordP)]
  by_cases m : (a, a) ∈ w <;> simp [m]
theorem sum_by {α β : Type} [DecidableEq β] (f : α → β) : ∀ {l : List β} {w : List α}, l.Nodup → (∀ p ∈ w, f p ∈ l) → (l.map fun a => (w.filter fun p => decide (f p = a)).length).sum = w.length
  | l, [], _, _ => by
    have : ∀ m : List β, (m.map fun a => (([] : List α).filter fun p => decide (f p = a)).length).sum = 0 := fun m => by
      induction m with
      | nil => rfl
      | cons a m ih => rw [List.map_cons, List.sum_cons, ih]; rfl
    exact this l
  | l, p :: w, hl, h => by
    have ih := sum_by f hl fun q m => h q (List.mem_cons_of_mem _ m)
    have key : ∀ m : List β, (m.map fun a => ((p :: w).filter fun q => decide (f q = a)).length).sum = (m.map fun a => (w.filter fun q => decide (f q = a)).length).sum + (m.filter fun a => decide (a = f p)).length := fun m => by
      induction m with
      | nil => rfl
      | cons a m ihm =>
        rw [List.map_cons, List.sum_cons, ihm, List.map_cons, List.sum_cons]
        simp only [List.filter_cons]
        by_cases e : f p = a
        · subst e; simp; omega
        · have e' : ¬ a = f p := fun z => e z.symm
          simp [e, e']; omega
    rw [key, ih, filter_one (f p) hl, if_pos (h p List.mem_cons_self)]
    rfl
theorem sum_wok {l : List Str} {w : List (Str × Str)} (h : Bl l) (hw : Wk l w) : (l.map fun a => (wok w a).length).sum = w.length := by
  have := sum_by (fun p : Str × Str => p.1) (h.ri.nodup ordS) (fun p m => (hw.mem p m).1)
  simpa [wok] using this
theorem sum_wak {l : List Str} {w : List (Str × Str)} (h : Bl l) (hw : Wk l w) : (l.map fun a => (wak w a).length).sum = w.length := by
  have := sum_by (fun p : Str × Str => p.2) (h.ri.nodup ordS) (fun p m => (hw.mem p m).2)
  simpa [wak] using this
end DL.K04

/-! ==== GMB_K04 -/
namespace DL.K04
open PySem L2
section
variable {m : Str} {fn : List SV → Out D} {ro rx ra rb : Env → Out D} {e : Env} {l l' : List Str} {w w' : List (Str × Str)} {d x : D} {s : List SV}
theorem meth0 (hm : ([("bells" : Str), ("wakes" : Str)].contains m) = false) (h : ro e = .ok (webD l w) e) (hf : fn [.dat (webD l w)] = .ok d s) : methS ("Web" : Str) m fn [] ro nilR e = .ok d e := by
  unfold methS
  rw [h]
  unfold webD at hf
  simp only [bind_ok, webD, hm, and_self, if_true, nilR, refsB, refsOf, List.all_nil, List.map_nil, List.append_nil, fnCall, nodupB, svsOf, hf]
  cases s <;> rfl
theorem meth1 (hm : ([("bells" : Str), ("wakes" : Str)].contains m) = false) (h : ro e = .ok (webD l w) e) (hx : rx e = .ok x e) (hf : fn [.dat (webD l w), .dat x] = .ok d s) : methS ("Web" : Str) m fn [] ro (consRd rx nilR) e = .ok d e := by
  unfold methS
  rw [h]
  unfold webD at hf
  simp only [bind_ok, webD, hm, and_self, if_true, consRd, hx, nilR, refsB, refsOf, List.all_nil, List.map_nil, List.append_nil, fnCall, nodupB, svsOf, hf, List.cons_append, List.nil_append]
  rcases s with _ | ⟨s1, _ | ⟨s2, s3⟩⟩ <;> rfl
theorem eqa_web (n : Bool) (h : Bl l) (hw : Wk l w) (h' : Bl l') (hw' : Wk l' w') (hx : ra e = .ok (webD l w) e) (hy : rb e = .ok (webD l' w') e) {b : Bool} (hb : tst n (decide (l = l') && decide (w = w')) = b) : bin2 (eqA ("Web" : Str) f_Web_eq n) ra rb e = .ok (.bl b) e := by
  rw [← hb]
  unfold bin2
  rw [hx, bind_ok, hy, bind_ok]
  have := eq_ok h hw h' hw'
  unfold webD at this
  simp only [eqA, webD, and_self, if_true, this, tst]
end
theorem c_turned : ([("bells" : Str), ("wakes" : Str)].contains ("turned" : Str)) = false := by decide +kernel
theorem c_only : ([("bells" : Str), ("wakes" : Str)].contains ("only" : Str)) = false := by decide +kernel
theorem c_woken : ([("bells" : Str), ("wakes" : Str)].contains ("woken" : Str)) = false := by decide +kernel
theorem c_wakers : ([("bells" : Str), ("wakes" : Str)].contains ("wakers" : Str)) = false := by decide +kernel
theorem bl_one {l : List Str} (h : Bl l) {a : Str} (ha : a ∈ l) : Bl [a] := ⟨Nat.le_refl _, show 1 ≤ 12 by decide, fun s m => by simp at m; subst m; exact h.nm _ ha, List.pairwise_singleton _ _⟩
theorem sums_ok {l : List Str} {w : List (Str × Str)} (h : Bl l) (hw : Wk l w) : f_law_sums_right [.dat (webD l w)] = .ok (.bl true) [.dat (webD l w)] := by
  have ht := wk_tw hw
  have e1 : ∀ {s2 s3 s4 s5 : SV} (i : Nat), i = 0 → methS ("Web" : Str) ("turned" : Str) f_Web_turned [] (nameD i) nilR [.dat (webD l w), s2, s3, s4, s5, .un] = .ok (webD l (tw w)) [.dat (webD l w), s2, s3, s4, s5, .un] := fun i hi => by
    subst hi
    exact meth0 c_turned (nm1 rfl) (turned_ok h hw)
  refine Wp.out (fn_wp ?_)
  unfold b_law_sums_right
  refine wp_seq (wp_eq (a := .nx) (e := [.dat (webD l w), .dat (webD l (tw w)), .un, .un, .un, .un]) ?_ ?_)
  · show asgS _ _ _ [.dat (webD l w), .un, .un, .un, .un, .un] = _
    unfold asgS
    rw [e1 0 rfl]
    rfl
  have e2 : methS ("Web" : Str) ("turned" : Str) f_Web_turned [] (nameD 1) nilR [.dat (webD l w), .dat (webD l (tw w)), .un, .un, .un, .un] = .ok (webD l w) [.dat (webD l w), .dat (webD l (tw w)), .un, .un, .un, .un] := by
    have := turned_ok h ht
    rw [tw_tw hw.ri] at this
    exact meth0 c_turned (nm1 rfl) this
  have e3 : methS ("Web" : Str) ("only" : Str) f_Web_only [] (nameD 0) (consRd (fldD ("Web" : Str) ("bells" : Str) (nameD 0)) nilR) [.dat (webD l w), .dat (webD l (tw w)), .un, .un, .un, .un] = .ok (webD l w) [.dat (webD l w), .dat (webD l (tw w)), .un, .un, .un, .un] := by
    have := only_ok h hw h (fun s m => m)
    rw [ow_self hw] at this
    exact meth1 c_only (nm1 rfl) (by simp [nameD, constD, bin2, un1, pur2, pur1, consA, nilA, tupD, lstF, heldD, callD, one, seqS, ifS, retS, retNS, dropS, asgS, asgOS, parS, parT, andT, orT, notT, valT, blOf, andD, orD, notD, ifD, chainD, fldD, isiD, itA, itT, itS, itL, itEA, itET, itE, itR1, itR2, nextS, neverS, yesT, setD, setCons, setNil, setTup, appS, storeS, ownIx, ownUse, consRd, consRr, nilR, callS, fnCall, methS, mkCall, posA, kwA, consMd, consMf, nilM, newL, setAll, refsB, refsOf, nodupB, svsOf, putBack, ovOf, putOv, lstOf, backA, callFS, fnCallF, callLS, fnCallL, seqL, thenL, retL, ifL, nilL, nilN, seqN, doN, fldN, putFD, cmpF, addF, intF, lenF, tupleF, listF, max2F, min2F, int1F, asB, asI, asS, lrOf, seqOf, negF, kbTy, tyName, noO, someO, cutA, sl3, cutF, cutLF, keepsB, freeE, noEx, SV.isO, SV.isB, OV.toD, finD, yes2, fld_bells]) this
  refine wp_seq (wp_eq (a := .nx) (e := [.dat (webD l w), .dat (webD l (tw w)), .un, .un, .un, .un]) ?_ ?_)
  · exact ifSf (or2 (not1 (b := true) (val1 (eqa_web false h hw h hw e2 (nm1 rfl) (b := true) (by simp [tst])))) (or2 (val1 (eqa_web true h hw h hw e2 (nm1 rfl) (b := false) (by simp [tst]))) (val1 (eqa_web true h hw h hw e3 (nm1 rfl) (b := false) (by simp [tst]))))) rfl
  refine wp_seq (wp_for (fun _ e => ∃ s2 s4, e = [.dat (webD l w), .dat (webD l (tw w)), s2, .un, s4, .un] ∧ s2.isO = false ∧ s4.isO = false) (l.map .str) [.dat (webD l w), .dat (webD l (tw w)), .un, .un, .un, .un] (by simp [nameD, constD, bin2, un1, pur2, pur1, consA, nilA, tupD, lstF, heldD, callD, one, seqS, ifS, retS, retNS, dropS, asgS, asgOS, parS, parT, andT, orT, notT, valT, blOf, andD, orD, notD, ifD, chainD, fldD, isiD, itA, itT, itS, itL, itEA, itET, itE, itR1, itR2, nextS, neverS, yesT, setD, setCons, setNil, setTup, appS, storeS, ownIx, ownUse, consRd, consRr, nilR, callS, fnCall, methS, mkCall, posA, kwA, consMd, consMf, nilM, newL, setAll, refsB, refsOf, nodupB, svsOf, putBack, ovOf, putOv, lstOf, backA, callFS, fnCallF, callLS, fnCallL, seqL, thenL, retL, ifL, nilL, nilN, seqN, doN, fldN, putFD, cmpF, addF, intF, lenF, tupleF, listF, max2F, min2F, int1F, asB, asI, asS, lrOf, seqOf, negF, kbTy, tyName, noO, someO, cutA, sl3, cutF, cutLF, keepsB, freeE, noEx, SV.isO, SV.isB, OV.toD, finD, yes2, fld_bells]) ⟨_, _, rfl, rfl, rfl⟩ ?_ ?_)
  · rintro i d e hd ⟨s2, s4, rfl, h1, h2⟩
    rw [List.getElem?_map] at hd
    cases hs : l[i]? with
    | none => rw [hs] at hd; cases hd
    | some a =>
      rw [hs] at hd; cases hd
      have ha := List.mem_of_getElem? hs
      have f1 : ∀ (s4 s5 : SV), methS ("Web" : Str) ("woken" : Str) f_Web_woken [] (nameD 0) (consRd (nameD 2) nilR) [.dat (webD l w), .dat (webD l (tw w)), .dat (.str a), .un, s4, s5] = .ok (.tup ((wok w a).map .str)) [.dat (webD l w), .dat (webD l (tw w)), .dat (.str a), .un, s4, s5] := fun s4 s5 => meth1 c_woken (nm1 rfl) (nm1 rfl) (woken_ok h hw ha)
      have f2 : ∀ (s4 s5 : SV), methS ("Web" : Str) ("wakers" : Str) f_Web_wakers [] (nameD 0) (consRd (nameD 2) nilR) [.dat (webD l w), .dat (webD l (tw w)), .dat (.str a), .un, s4, s5] = .ok (.tup ((wak w a).map .str)) [.dat (webD l w), .dat (webD l (tw w)), .dat (.str a), .un, s4, s5] := fun s4 s5 => meth1 c_wakers (nm1 rfl) (nm1 rfl) (wakers_ok h hw ha)
      have f3 : ∀ (s4 s5 : SV), methS ("Web" : Str) ("woken" : Str) f_Web_woken [] (nameD 1) (consRd (nameD 2) nilR) [.dat (webD l w), .dat (webD l (tw w)), .dat (.str a), .un, s4, s5] = .ok (.tup ((wak w a).map .str)) [.dat (webD l w), .dat (webD l (tw w)), .dat (.str a), .un, s4, s5] := fun s4 s5 => by
        have := woken_ok h ht ha
        change f_Web_woken _ = .ok (.tup ((wok (tw w) a).map .str)) _ at this
        rw [wok_tw hw.ri] at this
        exact meth1 c_woken (nm1 rfl) (nm1 rfl) this
      have f4 : ∀ (s4 s5 : SV), methS ("Web" : Str) ("wakers" : Str) f_Web_wakers [] (nameD 1) (consRd (nameD 2) nilR) [.dat (webD l w), .dat (webD l (tw w)), .dat (.str a), .un, s4, s5] = .ok (.tup ((wok w a).map .str)) [.dat (webD l w), .dat (webD l (tw w)), .dat (.str a), .un, s4, s5] := fun s4 s5 => by
        have := wakers_ok h ht ha
        change f_Web_wakers _ = .ok (.tup ((wak (tw w) a).map .str)) _ at this
        rw [wak_tw hw.ri] at this
        exact meth1 c_wakers (nm1 rfl) (nm1 rfl) this
      have ok1 : ∀ x ∈ wok w a, x ∈ l := fun x m => (hw.mem _ (mem_wok.mp m)).2
      have ok2 : ∀ x ∈ wak w a, x ∈ l := fun x m => (hw.mem _ (mem_wak.mp m)).1
      have z1 : (wok w a).length ≤ sizeLine := by
        have : (wok w a).length ≤ w.length := by unfold wok; rw [List.length_map]; exact List.length_filter_le _ _
        exact Nat.le_trans this (Nat.le_trans hw.len (by decide))
      have z2 : (wak w a).length ≤ sizeLine := by
        have : (wak w a).length ≤ w.length := by unfold wak; rw [List.length_map]; exact List.length_filter_le _ _
        exact Nat.le_trans this (Nat.le_trans hw.len (by decide))
      refine ⟨[.dat (webD l w), .dat (webD l (tw w)), .dat (.str a), .un, s4, .un], ?_, ?_, ?_⟩
      · cases s2 <;> first | rfl | (exact Bool.noConfusion h1)
      · cases s2 <;> cases s4 <;> first | rfl | (exact Bool.noConfusion h1) | (exact Bool.noConfusion h2)
      · have q1 := eqF_tS true (fun x m => h.sok x (ok1 x m)) (fun x m => h.sok x (ok1 x m))
        have q2 := eqF_tS true (fun x m => h.sok x (ok2 x m)) (fun x m => h.sok x (ok2 x m))
        refine wp_seq (wp_eq (a := .nx) (e := [.dat (webD l w), .dat (webD l (tw w)), .dat (.str a), .un, s4, .un]) ?_ ?_)
        · exact ifSf (or2 (val1 (bin1 (f1 _ _) (f4 _ _) (q1.trans (by simp [tst])))) (val1 (bin1 (f2 _ _) (f3 _ _) (q2.trans (by simp [tst]))))) rfl
        -- every woken bell has the caller among its wakers
        have g1 : compF [5] (itA (methS ("Web" : Str) ("woken" : Str) f_Web_woken [] (nameD 0) (consRd (nameD 2) nilR))) (setD 5) yesT (bin2 (pur2 (inF false)) (nameD 2) (methS ("Web" : Str) ("wakers" : Str) f_Web_wakers [] (nameD 0) (consRd (nameD 5) nilR))) [.dat (webD l w), .dat (webD l (tw w)), .dat (.str a), .un, s4, .un] = .ok (((wok w a).filter fun _ => true).map fun x => .bl (decide (a ∈ wak w x))) [.dat (webD l w), .dat (webD l (tw w)), .dat (.str a), .un, s4, .un] :=
          compF_map (f := D.str) (itT1 (f1 _ _)) rfl z1 rfl fun x m => ⟨[.dat (webD l w), .dat (webD l (tw w)), .dat (.str a), .un, s4, .dat (.str x)], rfl, rfl, rfl, rfl, fun _ =>
            bin1 (nm1 rfl) (meth1 c_wakers (nm1 rfl) (nm1 rfl) (wakers_ok h hw (ok1 x m))) (inF_tS false a _)⟩
        have g2 : compF [5] (itA (methS ("Web" : Str) ("wakers" : Str) f_Web_wakers [] (nameD 0) (consRd (nameD 2) nilR))) (setD 5) yesT (bin2 (pur2 (inF false)) (nameD 2) (methS ("Web" : Str) ("woken" : Str) f_Web_woken [] (nameD 0) (consRd (nameD 5) nilR))) [.dat (webD l w), .dat (webD l (tw w)), .dat (.str a), .un, s4, .un] = .ok (((wak w a).filter fun _ => true).map fun x => .bl (decide (a ∈ wok w x))) [.dat (webD l w), .dat (webD l (tw w)), .dat (.str a), .un, s4, .un] :=
          compF_map (f := D.str) (itT1 (f2 _ _)) rfl z2 rfl fun x m => ⟨[.dat (webD l w), .dat (webD l (tw w)), .dat (.str a), .un, s4, .dat (.str x)], rfl, rfl, rfl, rfl, fun _ =>
            bin1 (nm1 rfl) (meth1 c_woken (nm1 rfl) (nm1 rfl) (woken_ok h hw (ok2 x m))) (inF_tS false a _)⟩
        have t1 : (((wok w a).filter fun _ => true).all fun x => decide (a ∈ wak w x)) = true := List.all_eq_true.mpr fun x m => by
          simpa using mem_wak.mpr (mem_wok.mp (List.mem_filter.mp m).1)
        have t2 : (((wak w a).filter fun _ => true).all fun x => decide (a ∈ wok w x)) = true := List.all_eq_true.mpr fun x m => by
          simpa using mem_wok.mpr (mem_wak.mp (List.mem_filter.mp m).1)
        refine wp_seq (wp_eq (a := .nx) (e := [.dat (webD l w), .dat (webD l (tw w)), .dat (.str a), .un, s4, .un]) (ifSf (not1 (b := true) (val1 (callo (held_ok g1) ((allF_map _ _).trans (by rw [t1]))))) rfl) ?_)
        refine wp_seq (wp_eq (a := .nx) (e := [.dat (webD l w), .dat (webD l (tw w)), .dat (.str a), .un, s4, .un]) (ifSf (not1 (b := true) (val1 (callo (held_ok g2) ((allF_map _ _).trans (by rw [t2]))))) rfl) ?_)
        have ao : SOk a ∧ SOk a := ⟨h.sok a ha, h.sok a ha⟩
        have i1 := inF_tP false (p := (a, a)) ao (fun p m => ⟨h.sok _ (hw.mem p m).1, h.sok _ (hw.mem p m).2⟩)
        refine wp_seq (wp_eq (a := .nx) (e := [.dat (webD l w), .dat (webD l (tw w)), .dat (.str a), .un, .dat (.int (if (a, a) ∈ w then 1 else 0)), .un]) (asg1 (callo (bin1 (tup1 (consA2 (nm1 rfl) (consA1 (nm1 rfl))) (show 2 ≤ sizeLine by decide)) (fld1 (nm1 rfl) (fld_wakes l w)) i1) (d := .int (if (a, a) ∈ w then 1 else 0)) (by by_cases q : (a, a) ∈ w <;> simp [int1F, tst, q])) ?_ ?_) ?_)
        · cases s4 <;> first | rfl | (exact Bool.noConfusion h2)
        · cases s4 <;> first | rfl | (exact Bool.noConfusion h2)
        have o1 := only_ok h hw (bl_one h ha) (fun s m => by simp at m; subst m; exact ha)
        have o2 : (ow [a] w).length = if (a, a) ∈ w then 1 else 0 := len_ow1 hw.ri a
        refine wp_seq (wp_eq (a := .nx) (e := [.dat (webD l w), .dat (webD l (tw w)), .dat (.str a), .un, .dat (.int (if (a, a) ∈ w then 1 else 0)), .un]) (ifSf (or2 (b := false) (val1 (bin1 (callo (fld1 (meth1 c_only (nm1 rfl) (tup1 (consA1 (nm1 rfl)) (show 1 ≤ sizeLine by decide)) o1) (fld_wakes [a] (ow [a] w))) rfl) (nm1 rfl) ?_)) (val1 (bin1 (bin1 (nm1 rfl) (f1 _ _) (inF_tS false a _)) (bin1 (nm1 rfl) cn1 (eqF_int false _ _)) ?_))) rfl) ?_)
        · refine (eqF_int true _ _).trans ?_
          by_cases q : (a, a) ∈ w <;> simp [tst, q, o2]
        · refine (eqF_bl true _ _).trans ?_
          by_cases q : (a, a) ∈ w <;> simp [tst, q, mem_wok]
        exact wp_nx.mpr ⟨rfl, _, _, rfl, rfl, rfl⟩
  · rintro e' ⟨s2, s4, rfl, h1, h2⟩
    have hz : l.length ≤ sizeLine := Nat.le_trans h.hi (by decide)
    have k1 : ∀ (m : Str) (fn : List SV → Out D) (wx : List (Str × Str) → Str → List Str), (([("bells" : Str), ("wakes" : Str)].contains m) = false) → (∀ a ∈ l, fn [.dat (webD l w), .dat (.str a)] = .ok (.tup ((wx w a).map .str)) [.dat (webD l w), .dat (.str a)]) → (l.map fun a => (wx w a).length).sum = w.length →
        callD (one sumF) (consA (heldD (compF [2] (itA (fldD ("Web" : Str) ("bells" : Str) (nameD 0))) (setD 2) yesT (callD (one lenF) (consA (methS ("Web" : Str) m fn [] (nameD 0) (consRd (nameD 2) nilR)) nilA)))) nilA) [.dat (webD l w), .dat (webD l (tw w)), s2, .un, s4, .un] = .ok (.int w.length) [.dat (webD l w), .dat (webD l (tw w)), s2, .un, s4, .un] := fun m fn wx hm hf hs => by
      have c1 : compF [2] (itA (fldD ("Web" : Str) ("bells" : Str) (nameD 0))) (setD 2) yesT (callD (one lenF) (consA (methS ("Web" : Str) m fn [] (nameD 0) (consRd (nameD 2) nilR)) nilA)) [.dat (webD l w), .dat (webD l (tw w)), s2, .un, s4, .un] = .ok ((l.filter fun _ => true).map fun a => .int ((wx w a).length : Nat)) [.dat (webD l w), .dat (webD l (tw w)), s2, .un, s4, .un] := by
        refine compF_map (f := D.str) (itT1 (fld1 (nm1 rfl) (fld_bells l w))) ?_ hz ?_ fun a m => ⟨[.dat (webD l w), .dat (webD l (tw w)), .dat (.str a), .un, s4, .un], rfl, rfl, rfl, rfl, fun _ => callo (meth1 hm (nm1 rfl) (nm1 rfl) (hf a m)) (len_tm _ _)⟩
        · cases s2 <;> first | rfl | (exact Bool.noConfusion h1)
        · rfl
      rw [show l.filter (fun _ => true) = l from List.filter_eq_self.mpr fun _ _ => rfl] at c1
      refine callo (held_ok c1) ((sumF_map _ l).trans ?_)
      rw [int_sum, hs]
    have a1 := k1 _ _ wok c_woken (fun a ha => woken_ok h hw ha) (sum_wok h hw)
    have a2 := k1 _ _ wak c_wakers (fun a ha => wakers_ok h hw ha) (sum_wak h hw)
    refine wp_seq (wp_eq (a := .nx) (e := [.dat (webD l w), .dat (webD l (tw w)), s2, .dat (.lst [.int w.length, .int w.length]), s4, .un]) (asg1 (held_ok (lst1 (consA2 a1 (consA1 a2)) (show 2 ≤ sizeLine by decide))) rfl ?_) ?_)
    · cases s2 <;> cases s4 <;> first | rfl | (exact Bool.noConfusion h1) | (exact Bool.noConfusion h2)
    refine wp_seq (wp_eq (a := .rt (.bl true)) (e := [.dat (webD l w), .dat (webD l (tw w)), s2, .dat (.lst [.int w.length, .int w.length]), s4, .un]) (ret1 (bin1 (nm1 rfl) (bin1 (held_ok (lst1 (consA1 (callo (fld1 (nm1 rfl) (fld_wakes l w)) (len_tm _ _))) (show 1 ≤ sizeLine by decide))) cn1 (d := .lst [.int w.length, .int w.length]) ?_) ?_)) ⟨rfl, rfl⟩)
    · rfl
    · exact (eqF_lI false [(w.length : Int), w.length] [(w.length : Int), w.length]).trans (by simp [tst])
end DL.K04

/-! ==== GMC_K04 -/
namespace DL.K04
open PySem L2
theorem log2_64 {n : Nat} (h : n < 2 ^ 64) : n.log2 < 64 := by
  by_cases h0 : n = 0
  · subst h0; decide
  · exact (Nat.log2_lt h0).mpr h
theorem mul_int {i j : Int} (h1 : i.natAbs < 2 ^ 64) (h2 : j.natAbs < 2 ^ 64) : mulA (.int i) (.int j) = some (.int (i * j)) := by
  have a := log2_64 h1
  have b := log2_64 h2
  have c : i.natAbs.log2 + j.natAbs.log2 < 1000000 := by omega
  simp [mulA, intF, c]
theorem mod_int {i j : Int} (h : 0 < j) : modF (.int i) (.int j) = some (.int (i % j)) := by simp [intF, h]
theorem fdiv_int {i j : Int} (h : 0 < j) (h2 : j.natAbs < 2 ^ 64) : fdivF (.int i) (.int j) = some (.int (i / j)) := by
  have := log2_64 h2
  have c : j.natAbs.log2 < 9000 := by omega
  simp [intF, h, c]
/-- a purse -/
structure PO (p : Int × Int) : Prop where
  a : 0 ≤ p.1
  b : 0 ≤ p.2
  b2 : p.2 < 2147483648
def pd (p : Int × Int) : OV := .L [.int p.1, .int p.2]
theorem at0 {x y : D} : atI [x, y] 0 = some x := rfl
theorem at1 {x y : D} : atI [x, y] 1 = some y := rfl
theorem ix0 : ixN 2 0 = some 0 := rfl
theorem ix1 : ixN 2 1 = some 1 := rfl
theorem take_ok {p : Int × Int} {u : Int} (hp : PO p) (hu : 1 ≤ u) (hu2 : u < 18446744073709551616) : ∃ r p', PO p' ∧ 0 ≤ r ∧ r < u ∧ f_law_take [.bor (pd p), .dat (.int u)] = .ok (.int r) [.bor (pd p'), .dat (.int u)] := by
  obtain ⟨a, b⟩ := p
  obtain ⟨ha, hb, hb2⟩ := hp
  dsimp only at ha hb hb2
  have hun : u.natAbs < 2 ^ 64 := by omega
  have hu0 : 0 < u := by omega
  by_cases h0 : b = 0
  · subst h0
    refine ⟨a % u, (a / u, 0), ⟨Int.ediv_nonneg ha (by omega), Int.le_refl _, show (0 : Int) < 2147483648 by decide⟩, Int.emod_nonneg _ (by omega), Int.emod_lt_of_pos _ hu0, ?_⟩
    refine Wp.out (fn_wp ?_)
    unfold b_law_take
    refine wp_seq (wp_eq (a := .rt (.int (a % u))) (e := [.bor (pd (a / u, 0)), .dat (.int u), .dat (.int (a % u))]) (ifSt (e1 := [.bor (pd (a, 0)), .dat (.int u), .un]) ?_ ?_) ⟨rfl, rfl⟩)
    · simp [nameD, constD, bin2, un1, pur2, pur1, consA, nilA, tupD, lstF, heldD, callD, one, seqS, ifS, retS, retNS, dropS, asgS, asgOS, parS, parT, andT, orT, notT, valT, blOf, andD, orD, notD, ifD, chainD, fldD, isiD, itA, itT, itS, itL, itEA, itET, itE, itR1, itR2, nextS, neverS, yesT, setD, setCons, setNil, setTup, appS, storeS, ownIx, ownUse, consRd, consRr, nilR, callS, fnCall, methS, mkCall, posA, kwA, consMd, consMf, nilM, newL, setAll, refsB, refsOf, nodupB, svsOf, putBack, ovOf, putOv, lstOf, backA, callFS, fnCallF, callLS, fnCallL, seqL, thenL, retL, ifL, nilL, nilN, seqN, doN, fldN, putFD, cmpF, addF, intF, lenF, tupleF, listF, max2F, min2F, int1F, asB, asI, asS, lrOf, seqOf, negF, kbTy, tyName, noO, someO, cutA, sl3, cutF, cutLF, keepsB, freeE, noEx, SV.isO, SV.isB, OV.toD, finD, yes2, pd, at1, eqF_int, tst]
    · simp [nameD, constD, bin2, un1, pur2, pur1, consA, nilA, tupD, lstF, heldD, callD, one, seqS, ifS, retS, retNS, dropS, asgS, asgOS, parS, parT, andT, orT, notT, valT, blOf, andD, orD, notD, ifD, chainD, fldD, isiD, itA, itT, itS, itL, itEA, itET, itE, itR1, itR2, nextS, neverS, yesT, setD, setCons, setNil, setTup, appS, storeS, ownIx, ownUse, consRd, consRr, nilR, callS, fnCall, methS, mkCall, posA, kwA, consMd, consMf, nilM, newL, setAll, refsB, refsOf, nodupB, svsOf, putBack, ovOf, putOv, lstOf, backA, callFS, fnCallF, callLS, fnCallL, seqL, thenL, retL, ifL, nilL, nilN, seqN, doN, fldN, putFD, cmpF, addF, intF, lenF, tupleF, listF, max2F, min2F, int1F, asB, asI, asS, lrOf, seqOf, negF, kbTy, tyName, noO, someO, cutA, sl3, cutF, cutLF, keepsB, freeE, noEx, SV.isO, SV.isB, OV.toD, finD, yes2, pd, at0, mod_int hu0, fdiv_int hu0 hun, ix0]
  · have h1 : (0 : Int) < 2147483587 := by decide
    have h2 : (0 : Int) < 2147483563 := by decide
    have h3 : (0 : Int) < 11 := by decide
    generalize hb' : 1 + (b * 39373 + 7919) % 2147483587 = b'
    have b1 : 0 ≤ b' ∧ b' < 2147483648 := by omega
    generalize hr : b' * 30269 % 2147483563 / 11 = r0
    have r1 : 0 ≤ r0 := by omega
    refine ⟨r0 % u, (a, b'), ⟨ha, b1.1, b1.2⟩, Int.emod_nonneg _ (by omega), Int.emod_lt_of_pos _ hu0, ?_⟩
    have m1 : mulA (.int b) (.int 39373) = some (.int (b * 39373)) := mul_int (by omega) (by decide)
    have m2 : mulA (.int b') (.int 30269) = some (.int (b' * 30269)) := mul_int (by omega) (by decide)
    refine Wp.out (fn_wp ?_)
    unfold b_law_take
    refine wp_seq (wp_eq (a := .nx) (e := [.bor (pd (a, b)), .dat (.int u), .un]) (ifSf (e1 := [.bor (pd (a, b)), .dat (.int u), .un]) ?_ rfl) ?_)
    · simp [nameD, constD, bin2, un1, pur2, pur1, consA, nilA, tupD, lstF, heldD, callD, one, seqS, ifS, retS, retNS, dropS, asgS, asgOS, parS, parT, andT, orT, notT, valT, blOf, andD, orD, notD, ifD, chainD, fldD, isiD, itA, itT, itS, itL, itEA, itET, itE, itR1, itR2, nextS, neverS, yesT, setD, setCons, setNil, setTup, appS, storeS, ownIx, ownUse, consRd, consRr, nilR, callS, fnCall, methS, mkCall, posA, kwA, consMd, consMf, nilM, newL, setAll, refsB, refsOf, nodupB, svsOf, putBack, ovOf, putOv, lstOf, backA, callFS, fnCallF, callLS, fnCallL, seqL, thenL, retL, ifL, nilL, nilN, seqN, doN, fldN, putFD, cmpF, addF, intF, lenF, tupleF, listF, max2F, min2F, int1F, asB, asI, asS, lrOf, seqOf, negF, kbTy, tyName, noO, someO, cutA, sl3, cutF, cutLF, keepsB, freeE, noEx, SV.isO, SV.isB, OV.toD, finD, yes2, pd, at1, eqF_int, tst, h0]
    refine wp_seq (wp_eq (a := .nx) (e := [.bor (pd (a, b')), .dat (.int u), .un]) ?_ ?_)
    · simp [nameD, constD, bin2, un1, pur2, pur1, consA, nilA, tupD, lstF, heldD, callD, one, seqS, ifS, retS, retNS, dropS, asgS, asgOS, parS, parT, andT, orT, notT, valT, blOf, andD, orD, notD, ifD, chainD, fldD, isiD, itA, itT, itS, itL, itEA, itET, itE, itR1, itR2, nextS, neverS, yesT, setD, setCons, setNil, setTup, appS, storeS, ownIx, ownUse, consRd, consRr, nilR, callS, fnCall, methS, mkCall, posA, kwA, consMd, consMf, nilM, newL, setAll, refsB, refsOf, nodupB, svsOf, putBack, ovOf, putOv, lstOf, backA, callFS, fnCallF, callLS, fnCallL, seqL, thenL, retL, ifL, nilL, nilN, seqN, doN, fldN, putFD, cmpF, addF, intF, lenF, tupleF, listF, max2F, min2F, int1F, asB, asI, asS, lrOf, seqOf, negF, kbTy, tyName, noO, someO, cutA, sl3, cutF, cutLF, keepsB, freeE, noEx, SV.isO, SV.isB, OV.toD, finD, yes2, pd, at1, m1, mod_int h1, ix1, hb']
    refine wp_seq (wp_eq (a := .rt (.int (r0 % u))) (e := [.bor (pd (a, b')), .dat (.int u), .un]) ?_ ⟨rfl, rfl⟩)
    simp [nameD, constD, bin2, un1, pur2, pur1, consA, nilA, tupD, lstF, heldD, callD, one, seqS, ifS, retS, retNS, dropS, asgS, asgOS, parS, parT, andT, orT, notT, valT, blOf, andD, orD, notD, ifD, chainD, fldD, isiD, itA, itT, itS, itL, itEA, itET, itE, itR1, itR2, nextS, neverS, yesT, setD, setCons, setNil, setTup, appS, storeS, ownIx, ownUse, consRd, consRr, nilR, callS, fnCall, methS, mkCall, posA, kwA, consMd, consMf, nilM, newL, setAll, refsB, refsOf, nodupB, svsOf, putBack, ovOf, putOv, lstOf, backA, callFS, fnCallF, callLS, fnCallL, seqL, thenL, retL, ifL, nilL, nilN, seqN, doN, fldN, putFD, cmpF, addF, intF, lenF, tupleF, listF, max2F, min2F, int1F, asB, asI, asS, lrOf, seqOf, negF, kbTy, tyName, noO, someO, cutA, sl3, cutF, cutLF, keepsB, freeE, noEx, SV.isO, SV.isB, OV.toD, finD, yes2, pd, at1, m2, mod_int h2, fdiv_int h3 (by decide), mod_int hu0, hr]
theorem callT {e : Env} {i : Nat} {p : Int × Int} {ru : Env → Out D} {u : Int} (h : e[i]? = some (.bor (pd p))) (hp : PO p) (hr : ru e = .ok (.int u) e) (hu : 1 ≤ u) (hu2 : u < 18446744073709551616) :
    ∃ r p', PO p' ∧ 0 ≤ r ∧ r < u ∧ callS (fnCall f_law_take) (posA []) (consRr i (consRd ru nilR)) nilR e = .ok (.int r) (e.set i (.bor (pd p'))) := by
  obtain ⟨r, p', q1, q2, q3, q4⟩ := take_ok hp hu hu2
  refine ⟨r, p', q1, q2, q3, ?_⟩
  simp [callS, consRr, consRd, h, hr, ovOf, nilR, posA, refsB, refsOf, fnCall, nodupB, svsOf, q4, putBack, putOv]
end DL.K04

/-! ==== GMD_K04 -/
namespace DL.K04
open PySem L2
def menuL : List Str := [("pull" : Str), ("put" : Str), ("strike" : Str), ("wake" : Str), ("unwake" : Str), ("back" : Str), ("web" : Str), ("pulls" : Str), ("heard" : Str), ("live" : Str), ("rung" : Str), ("can" : Str), ("most" : Str), ("end" : Str), ("round" : Str), ("paper" : Str), ("none" : Str), ("a" : Str), ("b" : Str), ("ab" : Str)]
theorem menu_nd : menuL.Nodup := by decide +kernel
theorem menu_nm : ∀ s ∈ menuL, Nm s := by
  have : ∀ s ∈ menuL, 1 ≤ s.length ∧ s.length ≤ 8 ∧ ∀ c ∈ s.cps.toList, c ∈ abc.cps.toList := by decide +kernel
  exact fun s m => ⟨(this s m).1, (this s m).2.1, (this s m).2.2⟩
theorem menu_len : menuL.length = 20 := rfl
/-- sorted names from distinct ones -/
theorem bl_srt {l : List Str} (hn : l.Nodup) (h : ∀ s ∈ l, Nm s) (lo : 1 ≤ l.length) (hi : l.length ≤ 12) : Bl (srt ltS l) :=
  ⟨by rw [srt_len]; exact lo, by rw [srt_len]; exact hi, fun s m => h s (srt_mem.mp m), srt_ri ordS hn⟩
theorem nodup_range {α : Type} {f : Nat → α} {n : Nat} (h : ∀ i j, i < n → j < n → f i = f j → i = j) : ((List.range n).map f).Nodup := by
  rw [List.nodup_iff_pairwise_ne, List.pairwise_map]
  refine List.Pairwise.imp_of_mem ?_ List.pairwise_lt_range
  intro a b ma mb lt e
  have := h a b (List.mem_range.mp ma) (List.mem_range.mp mb) e
  omega
def pick (f k : Nat) : Str := menuL.getD ((f + 3 * k) % 20) abc
theorem pick_at (f k : Nat) : menuL[(f + 3 * k) % 20]? = some (pick f k) := by
  have : (f + 3 * k) % 20 < menuL.length := by rw [menu_len]; omega
  unfold pick
  rw [List.getD_eq_getElem?_getD, List.getElem?_eq_getElem this]
  rfl
theorem pick_inj (f n : Nat) (hn : n ≤ 12) : ∀ i j, i < n → j < n → pick f i = pick f j → i = j := fun i j hi hj e => by
  have a := pick_at f i
  have b := pick_at f j
  rw [e] at a
  have li : (f + 3 * i) % 20 < menuL.length := by rw [menu_len]; omega
  have := (List.getElem?_inj li menu_nd).mp (a.trans b.symm)
  omega
/-! letters -/
theorem abc_len : abc.cps.toList.length = 26 := by decide +kernel
theorem abc_nd : abc.cps.toList.Nodup := by decide +kernel
theorem abc_at {k : Nat} (h : k < 26) : ∃ c, abc.cps.toList[k]? = some c ∧ ixF (.str abc) (.int (k : Int)) = some (.str ⟨#[c]⟩) := by
  have hl : k < abc.cps.toList.length := by rw [abc_len]; exact h
  refine ⟨abc.cps.toList[k], by rw [List.getElem?_eq_getElem hl], ?_⟩
  show (if abc.length ≤ sizeLine then (atI abc.cps.toList (k : Int)).map fun k => D.str ⟨#[k]⟩ else none) = _
  rw [if_pos (by decide +kernel), atI_nat (List.getElem?_eq_getElem hl)]
  rfl
theorem join_cps : ∀ ys : List Str, (Txt.join ⟨#[]⟩ ys).cps.toList = ys.flatMap fun y => y.cps.toList := fun ys => by
  have e : Txt.join ⟨#[]⟩ ys = Str.join ⟨#[]⟩ ys := by simpa using PyProof.Rows.join_plain_closes ⟨#[]⟩ ys
  rw [e]
  induction ys with
  | nil => rfl
  | cons y ys ih =>
    cases ys with
    | nil => simp [Str.join]
    | cons z zs =>
      show ((y ++ (⟨#[]⟩ : Str)) ++ Str.join ⟨#[]⟩ (z :: zs)).cps.toList = _
      show ((y.cps ++ #[]) ++ (Str.join ⟨#[]⟩ (z :: zs)).cps).toList = _
      rw [Array.toList_append, ih (by simpa using PyProof.Rows.join_plain_closes ⟨#[]⟩ (z :: zs))]
      simp
end DL.K04

/-! ==== GME_K04 -/
namespace DL.K04
open PySem L2
section
variable {e e1 e2 e3 : Env} {ra rb : Env → Out D} {x y d : D}
theorem par2T {i j : Nat} {r1 r2 : Env → Out D} {v w : D} (h1 : r1 e = .ok v e1) (h2 : r2 e1 = .ok w e2) (h3 : setAll [i, j] [.d v, .d w] e2 = some e3) : parT [i, j] (consMd r1 (consMd r2 nilM)) e = .ok .nx e3 := by
  unfold parT consMd
  rw [h1, bind_ok, h2]
  have hz : ([M.d v, M.d w] : List M).length ≤ sizeLine := show 2 ≤ sizeLine by decide
  simp only [bind_ok, nilM, hz, if_true, h3]
end
theorem stem_ok {s : Str} {at_ b k : Nat} (hk : k < 26) (hs : ∀ c ∈ s.cps.toList, c ∈ abc.cps.toList) (hl : s.length ≤ 7) (ha : at_ ≤ s.length) : ∃ z : Str, Nm z ∧ z.cps.toList[at_]? = abc.cps.toList[(b + 5 * k) % 26]? ∧ ∀ (e : Env), e[6]? = some (.dat (.str s)) → e[7]? = some (.dat (.int at_)) → e[8]? = some (.dat (.int b)) → e[9]? = some (.dat (.int k)) → e[2]? = some (.dat (.str abc)) →
    bin2 (pur2 addF) (bin2 (pur2 addF) (cutA (nameD 6) noO (someO (nameD 7))) (bin2 (pur2 ixF) (nameD 2) (bin2 (pur2 modF) (bin2 (pur2 addF) (nameD 8) (bin2 (pur2 mulA) (constD (.int 5)) (nameD 9))) (constD (.int 26))))) (cutA (nameD 6) (someO (nameD 7)) noO) e = .ok (.str z) e := by
  obtain ⟨c, hc, hx⟩ := abc_at (k := (b + 5 * k) % 26) (by omega)
  have hlen : s.cps.toList.length = s.length := Array.length_toList
  let z1 := cutS s none (some (at_ : Int))
  let z2 := cutS s (some (at_ : Int)) none
  have c1 : z1.cps.toList = s.cps.toList.take at_ := by
    show (((s.cps.toList.drop (HT.sIx s.length 0 none)).take (HT.sIx s.length s.length (some (at_ : Int)) - HT.sIx s.length 0 none)).toArray).toList = _
    rw [HT.sIx_none, HT.sIx_nat]
    simp [Nat.min_eq_left ha]
  have c2 : z2.cps.toList = s.cps.toList.drop at_ := by
    show (((s.cps.toList.drop (HT.sIx s.length 0 (some (at_ : Int)))).take (HT.sIx s.length s.length none - HT.sIx s.length 0 (some (at_ : Int)))).toArray).toList = _
    rw [HT.sIx_none, HT.sIx_nat, Nat.min_eq_left ha]
    rw [List.take_of_length_le (by rw [List.length_drop, hlen]; exact Nat.le_refl _)]
  have l1 : z1.length = at_ := by
    show z1.cps.size = _
    rw [← Array.length_toList, c1, List.length_take, hlen]; omega
  have l2 : z2.length = s.length - at_ := by
    show z2.cps.size = _
    rw [← Array.length_toList, c2, List.length_drop, hlen]
  have hz : ((z1 ++ (⟨#[c]⟩ : Str)) ++ z2).cps.toList = s.cps.toList.take at_ ++ [c] ++ s.cps.toList.drop at_ := by
    show ((z1.cps ++ #[c]) ++ z2.cps).toList = _
    rw [Array.toList_append, Array.toList_append, c1, c2]
  have lz : ((z1 ++ (⟨#[c]⟩ : Str)) ++ z2).length = s.length + 1 := by
    show ((z1 ++ (⟨#[c]⟩ : Str)) ++ z2).cps.size = _
    rw [← Array.length_toList, hz]
    simp only [List.length_append, List.length_take, List.length_drop, hlen, List.length_singleton]
    omega
  refine ⟨(z1 ++ (⟨#[c]⟩ : Str)) ++ z2, ⟨by omega, by omega, fun x m => ?_⟩, ?_, fun e h6 h7 h8 h9 h2 => ?_⟩
  · rw [hz] at m
    simp only [List.mem_append, List.mem_singleton] at m
    rcases m with (m | m) | m
    · exact hs x (List.mem_of_mem_take m)
    · subst m; exact List.mem_of_getElem? hc
    · exact hs x (List.mem_of_mem_drop m)
  · rw [hz, hc]
    have lt : (s.cps.toList.take at_).length = at_ := by rw [List.length_take, hlen]; omega
    rw [List.append_assoc, List.getElem?_append_right (by omega), lt]
    simp
  · have sl : s.length ≤ sizeLine := Nat.le_trans hl (by decide)
    have m1 : mulA (.int 5) (.int (k : Int)) = some (.int (5 * k)) := by
      exact mul_int (by decide) (by omega)
    have i1 : bin2 (pur2 modF) (bin2 (pur2 addF) (nameD 8) (bin2 (pur2 mulA) (constD (.int 5)) (nameD 9))) (constD (.int 26)) e = .ok (.int (((b + 5 * k) % 26 : Nat) : Int)) e :=
      bin1 (bin1 (nm1 h8) (bin1 cn1 (nm1 h9) m1) (d := .int ((b : Int) + 5 * k)) rfl) cn1 ((mod_int (by decide)).trans (by congr 2))
    have q1 : cutA (nameD 6) noO (someO (nameD 7)) e = .ok (.str z1) e := by
      have n6 := nm1 h6
      have n7 := nm1 h7
      simp [cutA, n6, sl3, noO, someO, n7, cutF, sl]
      rfl
    have q2 : cutA (nameD 6) (someO (nameD 7)) noO e = .ok (.str z2) e := by
      have n6 := nm1 h6
      have n7 := nm1 h7
      simp [cutA, n6, sl3, noO, someO, n7, cutF, sl]
      rfl
    have a1 : addF (.str z1) (.str ⟨#[c]⟩) = some (.str (z1 ++ ⟨#[c]⟩)) := by
      have : z1.length + (⟨#[c]⟩ : Str).length ≤ sizeLine := by
        have : (⟨#[c]⟩ : Str).length = 1 := rfl
        have : (16 : Nat) ≤ sizeLine := by decide
        omega
      simp only [addF, this, if_true]
    have a2 : addF (.str (z1 ++ ⟨#[c]⟩)) (.str z2) = some (.str ((z1 ++ ⟨#[c]⟩) ++ z2)) := by
      have : (z1 ++ (⟨#[c]⟩ : Str)).length + z2.length ≤ sizeLine := by
        have e1 : (z1 ++ (⟨#[c]⟩ : Str)).length = z1.length + 1 := by
          show (z1.cps ++ #[c]).size = z1.cps.size + 1
          simp
        have : (16 : Nat) ≤ sizeLine := by decide
        omega
      simp only [addF, this, if_true]
    exact bin1 (bin1 q1 (bin1 (nm1 h2) i1 hx) a1) q2 a2
theorem r1_ok {ra : Env → Out D} {e e1 : Env} {n : Nat} (h : ra e = .ok (.int (n : Int)) e1) (hn : n < 4611686018427387904) : itR1 (consA ra nilA) e = .ok ((List.range n).map fun (k : Nat) => .int (k : Int)) e1 := by
  unfold itR1
  rw [consA1 h, bind_ok]
  have o : okR (n : Int) = true := by unfold okR; simp; omega
  simp only [o, if_true, rgL, Int.toNat_natCast, Int.zero_add]
theorem all_ex {α β : Type} {g : α → β} {A : α → Prop} : ∀ {ys : List β}, (∀ (i : Nat) y, ys[i]? = some y → ∃ c, A c ∧ y = g c) → ∃ cs : List α, ys = cs.map g ∧ ∀ c ∈ cs, A c
  | [], _ => ⟨[], rfl, fun c m => by simp at m⟩
  | y :: ys, h => by
    obtain ⟨c, h1, rfl⟩ := h 0 y rfl
    obtain ⟨cs, h2, h3⟩ := all_ex (ys := ys) fun i y q => h (i + 1) y (by simpa using q)
    refine ⟨c :: cs, by rw [h2]; rfl, fun d m => ?_⟩
    rcases List.mem_cons.mp m with rfl | m
    · exact h1
    · exact h3 d m
theorem asS_map : ∀ l : List Str, asS (l.map .str) = some l
  | [] => rfl
  | s :: l => by simp [asS, asS_map l]
theorem empty_eq : ("" : Str) = ⟨#[]⟩ := by decide +kernel
theorem sum_len1 : ∀ cs : List Nat, ((cs.map fun c => (⟨#[c]⟩ : Str)).map (·.length)).sum = cs.length
  | [] => rfl
  | c :: cs => by
    simp only [List.map_cons, List.sum_cons, sum_len1 cs, List.length_cons]
    show 1 + _ = _
    omega
theorem join_ok {cs : List Nat} {rf : Env → Out (List D)} {e e1 : Env} (h : rf e = .ok (cs.map fun c => .str ⟨#[c]⟩) e1) (hl : cs.length ≤ 100) : ∃ s : Str, s.cps.toList = cs ∧ joinD (constD (.str ("" : Str))) (heldD rf) e = .ok (.str s) e1 := by
  refine ⟨Txt.join ⟨#[]⟩ (cs.map fun c => ⟨#[c]⟩), ?_, ?_⟩
  · rw [join_cps, List.flatMap_map]
    simp
  · unfold joinD
    rw [cn1, bind_ok]
    dsimp only
    rw [held_ok h, bind_ok]
    unfold pur1 joinF
    have e2 : (cs.map fun c => D.str ⟨#[c]⟩) = (cs.map fun c => (⟨#[c]⟩ : Str)).map D.str := by simp
    have e3 : (seqOf (.lst (cs.map fun c => D.str ⟨#[c]⟩))).bind asS = some (cs.map fun c => (⟨#[c]⟩ : Str)) := by
      rw [e2]
      exact asS_map _
    have e4 : ((cs.map fun c => (⟨#[c]⟩ : Str)).map (·.length)).sum = cs.length := by
      exact sum_len1 cs
    have e5 : (("" : Str)).length = 0 := by decide +kernel
    rw [e3]
    simp only [Option.bind_some, e4, e5, Nat.mul_zero, Nat.add_zero]
    rw [if_pos (by omega), empty_eq]
/-- f's outcome as an equation -/
theorem calls_ok {p : Int × Int} {n : Nat} (hp : PO p) (h1 : 1 ≤ n) (h2 : n ≤ 12) : ∃ l p', PO p' ∧ Bl l ∧ l.length = n ∧ f_law_calls [.bor (pd p), .dat (.int n)] = .ok (.lst (l.map .str)) [.bor (pd p'), .dat (.int n)] := by
  have hz : (List.range n).length ≤ sizeLine := by rw [List.length_range]; exact Nat.le_trans h2 (by decide)
  suffices h : Wp (f_law_calls [.bor (pd p), .dat (.int n)]) fun d svs => ∃ l p', PO p' ∧ Bl l ∧ l.length = n ∧ d = .lst (l.map .str) ∧ svs = [.bor (pd p'), .dat (.int n)] by
    obtain ⟨d, svs, e, l, p', q1, q2, q3, rfl, rfl⟩ := h
    exact ⟨l, p', q1, q2, q3, e⟩
  refine fn_wp ?_
  unfold b_law_calls
  refine wp_seq (wp_eq (a := .nx) (e := [.bor (pd p), .dat (.int n), .dat (.str abc), .un, .un, .un, .un, .un, .un, .un]) rfl ?_)
  refine wp_seq (wp_eq (a := .nx) (e := [.bor (pd p), .dat (.int n), .dat (.str abc), .dat (.lst (menuL.map .str)), .un, .un, .un, .un, .un, .un]) rfl ?_)
  obtain ⟨f, p1, hp1, f0, f1, c1⟩ := callT (e := [.bor (pd p), .dat (.int n), .dat (.str abc), .dat (.lst (menuL.map .str)), .un, .un, .un, .un, .un, .un]) (i := 0) (u := 20) rfl hp cn1 (by decide) (by decide)
  obtain ⟨w, p2, hp2, w0, w1, c2⟩ := callT (e := [.bor (pd p1), .dat (.int n), .dat (.str abc), .dat (.lst (menuL.map .str)), .un, .un, .un, .un, .un, .un]) (i := 0) (u := 4) rfl hp1 cn1 (by decide) (by decide)
  obtain ⟨f, rfl⟩ := Int.eq_ofNat_of_zero_le f0
  refine wp_seq (wp_eq (a := .nx) (e := [.bor (pd p2), .dat (.int n), .dat (.str abc), .dat (.lst (menuL.map .str)), .dat (.int f), .dat (.int w), .un, .un, .un, .un]) (par2T c1 c2 rfl) ?_)
  by_cases hw : w = 0
  · subst hw
    have cc : compF [9] (itR1 (consA (nameD 1) nilA)) (setD 9) yesT (bin2 (pur2 ixF) (nameD 3) (bin2 (pur2 modF) (bin2 (pur2 addF) (nameD 4) (bin2 (pur2 mulA) (constD (.int 3)) (nameD 9))) (constD (.int 20)))) [.bor (pd p2), .dat (.int n), .dat (.str abc), .dat (.lst (menuL.map .str)), .dat (.int f), .dat (.int 0), .un, .un, .un, .un] = .ok (((List.range n).filter fun _ => true).map fun k => .str (pick f k)) [.bor (pd p2), .dat (.int n), .dat (.str abc), .dat (.lst (menuL.map .str)), .dat (.int f), .dat (.int 0), .un, .un, .un, .un] := by
      refine compF_map (r1_ok (nm1 rfl) (by omega)) rfl hz rfl fun k m => ⟨[.bor (pd p2), .dat (.int n), .dat (.str abc), .dat (.lst (menuL.map .str)), .dat (.int f), .dat (.int 0), .un, .un, .un, .dat (.int k)], rfl, rfl, rfl, rfl, fun _ => ?_⟩
      have hk := List.mem_range.mp m
      refine bin1 (nm1 rfl) (bin1 (bin1 (nm1 rfl) (bin1 cn1 (nm1 rfl) (mul_int (by decide) (by omega))) (d := .int ((f : Int) + 3 * k)) rfl) cn1 ((mod_int (by decide)).trans (show _ = some (.int (((f + 3 * k) % 20 : Nat) : Int)) by congr 2))) (ix_lst ?_)
      rw [List.getElem?_map, pick_at]
      rfl
    rw [show (List.range n).filter (fun _ => true) = List.range n from List.filter_eq_self.mpr fun _ _ => rfl, show ((List.range n).map fun k => D.str (pick f k)) = ((List.range n).map (pick f)).map D.str by simp] at cc
    have ll : ((List.range n).map (pick f)).length = n := by simp
    refine wp_seq (wp_eq (a := .rt (.lst ((srt ltS ((List.range n).map (pick f))).map .str))) (e := [.bor (pd p2), .dat (.int n), .dat (.str abc), .dat (.lst (menuL.map .str)), .dat (.int f), .dat (.int 0), .un, .un, .un, .un]) (ifSt (val1 (bin1 (nm1 rfl) cn1 (eqF_int false _ _))) ?_) ?_)
    · unfold seqS
      rw [ret1 (held_ok (sort_S (consA1 (held_ok cc))))]
      rfl
    · refine ⟨_, p2, hp2, bl_srt (nodup_range (pick_inj f n h2)) (fun s m => ?_) (by rw [ll]; exact h1) (by rw [ll]; exact h2), by rw [srt_len, ll], rfl, rfl⟩
      obtain ⟨k, _, rfl⟩ := List.mem_map.mp m
      exact menu_nm _ (List.mem_of_getElem? (pick_at f k))
  · refine wp_seq (wp_eq (a := .nx) (e := [.bor (pd p2), .dat (.int n), .dat (.str abc), .dat (.lst (menuL.map .str)), .dat (.int f), .dat (.int w), .un, .un, .un, .un]) (ifSf (val1 (bin1 (nm1 rfl) cn1 ((eqF_int false _ _).trans (by simp [tst, hw])))) rfl) ?_)
    obtain ⟨t, p3, hp3, t0, t1, c3⟩ := callT (e := [.bor (pd p2), .dat (.int n), .dat (.str abc), .dat (.lst (menuL.map .str)), .dat (.int f), .dat (.int w), .un, .un, .un, .un]) (i := 0) (u := 8) rfl hp2 cn1 (by decide) (by decide)
    obtain ⟨t, rfl⟩ := Int.eq_ofNat_of_zero_le t0
    have w1 : Wp (compF [9] (itR1 (consA (callS (fnCall f_law_take) (posA []) (consRr 0 (consRd (constD (.int 8)) nilR)) nilR) nilA)) (setD 9) yesT (bin2 (pur2 ixF) (nameD 2) (callS (fnCall f_law_take) (posA []) (consRr 0 (consRd (constD (.int 26)) nilR)) nilR)) [.bor (pd p2), .dat (.int n), .dat (.str abc), .dat (.lst (menuL.map .str)), .dat (.int f), .dat (.int w), .un, .un, .un, .un]) fun ys e => ∃ (cs : List Nat) (p4 : Int × Int), PO p4 ∧ cs.length ≤ 7 ∧ (∀ c ∈ cs, c ∈ abc.cps.toList) ∧ ys = cs.map (fun c => .str ⟨#[c]⟩) ∧ e = [.bor (pd p4), .dat (.int n), .dat (.str abc), .dat (.lst (menuL.map .str)), .dat (.int f), .dat (.int w), .un, .un, .un, .un] := by
      refine compF_st ((List.range t).map fun (k : Nat) => .int (k : Int)) p3 (fun q => [.bor (pd q), .dat (.int n), .dat (.str abc), .dat (.lst (menuL.map .str)), .dat (.int f), .dat (.int w), .un, .un, .un, .un]) PO (fun _ y => ∃ c, c ∈ abc.cps.toList ∧ y = .str ⟨#[c]⟩) (r1_ok c3 (by omega)) rfl ?_ rfl hp3 ?_ ?_
      · rw [List.length_map, List.length_range]
        exact Nat.le_trans (show t ≤ 8 by omega) (by decide)
      · intro i d q hd hq
        rw [List.getElem?_map] at hd
        cases hi : (List.range t)[i]? with
        | none => rw [hi] at hd; cases hd
        | some k =>
          rw [hi] at hd; cases hd
          obtain ⟨r, q', hq', r0, r1, cr⟩ := callT (e := [.bor (pd q), .dat (.int n), .dat (.str abc), .dat (.lst (menuL.map .str)), .dat (.int f), .dat (.int w), .un, .un, .un, .dat (.int k)]) (i := 0) (u := 26) rfl hq cn1 (by decide) (by decide)
          obtain ⟨r, rfl⟩ := Int.eq_ofNat_of_zero_le r0
          obtain ⟨c, hc, hx⟩ := abc_at (k := r) (by omega)
          exact ⟨[.bor (pd q), .dat (.int n), .dat (.str abc), .dat (.lst (menuL.map .str)), .dat (.int f), .dat (.int w), .un, .un, .un, .dat (.int k)], rfl, rfl, rfl, wp_eq (bin1 (nm1 rfl) cr hx) ⟨rfl, ⟨c, List.mem_of_getElem? hc, rfl⟩, q', hq', rfl⟩⟩
      · intro ys p4 hp4 hl hr
        obtain ⟨cs, rfl, hcs⟩ := all_ex hr
        refine ⟨cs, p4, hp4, ?_, hcs, rfl, rfl⟩
        simp at hl
        omega
    obtain ⟨ys, e, w2, cs, p4, hp4, hcl, hcs, rfl, rfl⟩ := w1
    obtain ⟨s, hs, hj⟩ := join_ok w2 (by omega)
    have sl : s.length ≤ 7 := by
      have : s.cps.toList.length = s.length := Array.length_toList
      rw [← this, hs]; exact hcl
    have sc : ∀ c ∈ s.cps.toList, c ∈ abc.cps.toList := fun c m => hcs c (hs ▸ m)
    refine wp_seq (wp_eq (a := .nx) (e := [.bor (pd p4), .dat (.int n), .dat (.str abc), .dat (.lst (menuL.map .str)), .dat (.int f), .dat (.int w), .dat (.str s), .un, .un, .un]) (asg1 hj rfl rfl) ?_)
    have ls : lenF (.str s) = some (.int s.length) := by
      have : s.length ≤ sizeLine := Nat.le_trans sl (by decide)
      simp [lenF, this]
    obtain ⟨x, p5, hp5, x0, x1, c5⟩ := callT (e := [.bor (pd p4), .dat (.int n), .dat (.str abc), .dat (.lst (menuL.map .str)), .dat (.int f), .dat (.int w), .dat (.str s), .un, .un, .un]) (i := 0) (ru := bin2 (pur2 addF) (callD (one lenF) (consA (nameD 6) nilA)) (constD (.int 1))) (u := (s.length : Int) + 1) rfl hp4 (bin1 (callo (nm1 rfl) ls) cn1 rfl) (by omega) (by omega)
    obtain ⟨b, p6, hp6, b0, b1, c6⟩ := callT (e := [.bor (pd p5), .dat (.int n), .dat (.str abc), .dat (.lst (menuL.map .str)), .dat (.int f), .dat (.int w), .dat (.str s), .un, .un, .un]) (i := 0) (u := 26) rfl hp5 cn1 (by decide) (by decide)
    obtain ⟨x, rfl⟩ := Int.eq_ofNat_of_zero_le x0
    obtain ⟨b, rfl⟩ := Int.eq_ofNat_of_zero_le b0
    refine wp_seq (wp_eq (a := .nx) (e := [.bor (pd p6), .dat (.int n), .dat (.str abc), .dat (.lst (menuL.map .str)), .dat (.int f), .dat (.int w), .dat (.str s), .dat (.int x), .dat (.int b), .un]) (par2T c5 c6 rfl) ?_)
    have hx : x ≤ s.length := by omega
    have so := fun (k : Nat) (hk : k < 26) => stem_ok (b := b) hk sc sl hx
    let zf : Nat → Str := fun k => if hk : k < 26 then Classical.choose (so k hk) else abc
    have ze : ∀ (k : Nat) (hk : k < n), zf k = Classical.choose (so k (by omega)) := fun k hk => dif_pos (by omega)
    have z1 : ∀ k, k < n → Nm (zf k) := fun k hk => by
      rw [ze k hk]
      exact (Classical.choose_spec (so k (by omega))).1
    have z2 : ∀ k, k < n → (zf k).cps.toList[x]? = abc.cps.toList[(b + 5 * k) % 26]? := fun k hk => by
      rw [ze k hk]
      exact (Classical.choose_spec (so k (by omega))).2.1
    have cc : compF [9] (itR1 (consA (nameD 1) nilA)) (setD 9) yesT (bin2 (pur2 addF) (bin2 (pur2 addF) (cutA (nameD 6) noO (someO (nameD 7))) (bin2 (pur2 ixF) (nameD 2) (bin2 (pur2 modF) (bin2 (pur2 addF) (nameD 8) (bin2 (pur2 mulA) (constD (.int 5)) (nameD 9))) (constD (.int 26))))) (cutA (nameD 6) (someO (nameD 7)) noO)) [.bor (pd p6), .dat (.int n), .dat (.str abc), .dat (.lst (menuL.map .str)), .dat (.int f), .dat (.int w), .dat (.str s), .dat (.int x), .dat (.int b), .un] = .ok (((List.range n).filter fun _ => true).map fun k => .str (zf k)) [.bor (pd p6), .dat (.int n), .dat (.str abc), .dat (.lst (menuL.map .str)), .dat (.int f), .dat (.int w), .dat (.str s), .dat (.int x), .dat (.int b), .un] :=
      compF_map (r1_ok (nm1 rfl) (by omega)) rfl hz rfl fun k m => ⟨[.bor (pd p6), .dat (.int n), .dat (.str abc), .dat (.lst (menuL.map .str)), .dat (.int f), .dat (.int w), .dat (.str s), .dat (.int x), .dat (.int b), .dat (.int k)], rfl, rfl, rfl, rfl, fun _ =>
        by
          rw [ze k (List.mem_range.mp m)]
          exact (Classical.choose_spec (so k (by have := List.mem_range.mp m; omega))).2.2 _ rfl rfl rfl rfl rfl⟩
    rw [show (List.range n).filter (fun _ => true) = List.range n from List.filter_eq_self.mpr fun _ _ => rfl, show ((List.range n).map fun k => D.str (zf k)) = ((List.range n).map zf).map D.str by simp] at cc
    have ll : ((List.range n).map zf).length = n := by simp
    have inj : ∀ i j, i < n → j < n → zf i = zf j → i = j := fun i j hi hj e => by
      have a1 := z2 i hi
      have a2 := z2 j hj
      rw [e] at a1
      have li : (b + 5 * i) % 26 < abc.cps.toList.length := by rw [abc_len]; omega
      have := (List.getElem?_inj li abc_nd).mp (a1.symm.trans a2)
      omega
    refine wp_seq (wp_eq (a := .rt (.lst ((srt ltS ((List.range n).map zf)).map .str))) (e := [.bor (pd p6), .dat (.int n), .dat (.str abc), .dat (.lst (menuL.map .str)), .dat (.int f), .dat (.int w), .dat (.str s), .dat (.int x), .dat (.int b), .un]) (ret1 (held_ok (sort_S (consA1 (held_ok cc))))) ?_)
    refine ⟨_, p6, hp6, bl_srt (nodup_range inj) (fun s m => ?_) (by rw [ll]; exact h1) (by rw [ll]; exact h2), by rw [srt_len, ll], rfl, rfl⟩
    obtain ⟨k, mk, rfl⟩ := List.mem_map.mp m
    exact z1 k (List.mem_range.mp mk)
end DL.K04

/-! ==== GMF_K04 -/
namespace DL.K04
open PySem L2
/-- a slot that owns nothing -/
def fr : Option D → SV
  | none => .un
  | some d => .dat d
theorem fr_O (o : Option D) : (fr o).isO = false := by cases o <;> rfl
theorem fr_B (o : Option D) : (fr o).isB = false := by cases o <;> rfl
section
variable {e e1 : Env} {i j : Nat} {o o1 o2 : Option D} {a b d x y : D} {rx ry : Env → Out D} {fn : List SV → Out D} {ov ov' : OV} {s : List SV}
theorem setD_fr (h : e[i]? = some (fr o)) : setD i d e = some (e.set i (.dat d)) := by
  unfold setD
  rw [h]
  cases o <;> rfl
theorem tg2 (hij : j ≠ i) (h1 : e[i]? = some (fr o1)) (h2 : e[j]? = some (fr o2)) : setTup 2 (setCons (setD i) (setCons (setD j) setNil)) (.tup [a, b]) e = some ((e.set i (.dat a)).set j (.dat b)) := by
  have h3 : (e.set i (.dat a))[j]? = some (fr o2) := by rw [List.getElem?_set_ne (Ne.symm hij)]; exact h2
  show setCons (setD i) (setCons (setD j) setNil) [a, b] e = _
  show (setD i a e).bind (fun e1 => (setD j b e1).bind fun e2 => some e2) = _
  rw [setD_fr h1]
  show (setD j b _).bind (fun e2 => some e2) = _
  rw [setD_fr h3]
  rfl
theorem callRd (h0 : ∃ o, ovOf e[i]? = some o) (hx : rx e = .ok x e1) (h1 : e1[i]? = some (.bor ov)) (hf : fn [.bor ov, .dat x] = .ok d [.bor ov', .dat x]) : callS (fnCall fn) (posA []) (consRr i (consRd rx nilR)) nilR e = .ok d (e1.set i (.bor ov')) := by
  obtain ⟨o, h0⟩ := h0
  have h2 : ovOf (some (SV.bor ov)) = some ov := rfl
  simp [callS, consRr, consRd, h0, hx, h1, h2, nilR, posA, refsB, refsOf, fnCall, nodupB, svsOf, hf, putBack, putOv]
theorem callD1 (hx : rx e = .ok x e1) (hf : fn [.dat x] = .ok d s) : callS (fnCall fn) (posA []) (consRd rx nilR) nilR e = .ok d e1 := by
  simp only [callS, consRd, hx, bind_ok, nilR, posA, refsB, refsOf, List.all_nil, if_true, List.map_nil, List.append_nil, fnCall, nodupB, svsOf, hf]
  cases s <;> rfl
theorem callD2 {e2 : Env} (hx : rx e = .ok x e1) (hy : ry e1 = .ok y e2) (hf : fn [.dat x, .dat y] = .ok d s) : callS (fnCall fn) (posA []) (consRd rx (consRd ry nilR)) nilR e = .ok d e2 := by
  simp only [callS, consRd, hx, hy, bind_ok, nilR, posA, refsB, refsOf, List.all_nil, if_true, List.map_nil, List.append_nil, List.cons_append, List.nil_append, fnCall, nodupB, svsOf, hf]
  rcases s with _ | ⟨s1, _ | ⟨s2, s3⟩⟩ <;> rfl
end
theorem size_ok {p : Int × Int} (hp : PO p) : ∃ (n : Nat) (p' : Int × Int), PO p' ∧ 1 ≤ n ∧ n ≤ 12 ∧ f_law_size [.bor (pd p), .dat (.int 7)] = .ok (.int n) [.bor (pd p'), .dat (.int 7)] := by
  obtain ⟨r, p1, hp1, r0, r1, c1⟩ := callT (e := [.bor (pd p), .dat (.int 7)]) (i := 0) (ru := nameD 1) (u := 7) rfl hp (nm1 rfl) (by decide) (by decide)
  obtain ⟨t, p2, hp2, t0, t1, c2⟩ := callT (e := [.bor (pd p1), .dat (.int 7)]) (i := 0) (u := 8) rfl hp1 cn1 (by decide) (by decide)
  obtain ⟨r, rfl⟩ := Int.eq_ofNat_of_zero_le r0
  refine ⟨if t = 3 then 12 else 1 + r, p2, hp2, by split <;> omega, by split <;> omega, ?_⟩
  refine Wp.out (fn_wp ?_)
  unfold b_law_size
  refine wp_seq (wp_eq (a := .rt (.int ((if t = 3 then 12 else 1 + r : Nat) : Int))) (e := [.bor (pd p2), .dat (.int 7)]) (ret1 (bin1 (held_ok (lst1 (consA2 (bin1 cn1 c1 rfl) (consA1 cn1)) (show 2 ≤ sizeLine by decide))) (callo (bin1 c2 cn1 (eqF_int false _ _)) rfl) ?_)) ⟨rfl, rfl⟩)
  by_cases q : t = 3
  · subst q; rfl
  · simp only [tst, q, decide_false, if_false, Bool.false_eq_true]
    exact ix_lst (k := 0) (by simp)
theorem webf_ok {l : List Str} {w : List (Str × Str)} (h : Bl l) (hw : Wk l w) : f_law_web [.dat (.lst (l.map .str)), .dat (.lst (w.map dP))] = .ok (webD l w) [.dat (.lst (l.map .str)), .dat (.lst (w.map dP))] := by
  have hi := init_ok h hw
  refine Wp.out (fn_wp ?_)
  unfold b_law_web
  refine wp_seq (wp_eq (a := .rt (webD l w)) (e := [.dat (.lst (l.map .str)), .dat (.lst (w.map dP))]) ?_ ⟨rfl, rfl⟩)
  simp [nameD, constD, bin2, un1, pur2, pur1, consA, nilA, tupD, lstF, heldD, callD, one, seqS, ifS, retS, retNS, dropS, asgS, asgOS, parS, parT, andT, orT, notT, valT, blOf, andD, orD, notD, ifD, chainD, fldD, isiD, itA, itT, itS, itL, itEA, itET, itE, itR1, itR2, nextS, neverS, yesT, setD, setCons, setNil, setTup, appS, storeS, ownIx, ownUse, consRd, consRr, nilR, callS, fnCall, methS, mkCall, posA, kwA, consMd, consMf, nilM, newL, setAll, refsB, refsOf, nodupB, svsOf, putBack, ovOf, putOv, lstOf, backA, callFS, fnCallF, callLS, fnCallL, seqL, thenL, retL, ifL, nilL, nilN, seqN, doN, fldN, putFD, cmpF, addF, intF, lenF, tupleF, listF, max2F, min2F, int1F, asB, asI, asS, lrOf, seqOf, negF, kbTy, tyName, noO, someO, cutA, sl3, cutF, cutLF, keepsB, freeE, noEx, SV.isO, SV.isB, OV.toD, finD, yes2, hi, webD]
end DL.K04

/-! ==== GMG_K04 -/
namespace DL.K04
open PySem L2
theorem b_dat (d : D) : (SV.dat d).isB = false := rfl
theorem b_bor (d : OV) : (SV.bor d).isB = true := rfl
theorem b_own (d : OV) : (SV.own d).isB = false := rfl
theorem o_dat (d : D) : (SV.dat d).isO = false := rfl
structure LI (l : List Str) (i j : Nat) (acc : List (Str × Str)) : Prop where
  ri : Ri ltP acc
  len : acc.length ≤ i * l.length + j
  mem : ∀ p ∈ acc, ∃ a b, (a < i ∨ (a = i ∧ b < j)) ∧ l[a]? = some p.1 ∧ l[b]? = some p.2
theorem Ri.lt_of {l : List Str} (h : Ri ltS l) {i j : Nat} {a b : Str} (ha : l[i]? = some a) (hb : l[j]? = some b) (hij : i < j) : ltS a b = true := by
  obtain ⟨h1, rfl⟩ := List.getElem?_eq_some_iff.mp ha
  obtain ⟨h2, rfl⟩ := List.getElem?_eq_some_iff.mp hb
  exact List.pairwise_iff_getElem.mp h i j h1 h2 hij
theorem LI.skip {l : List Str} {i j : Nat} {acc : List (Str × Str)} (h : LI l i j acc) : LI l i (j + 1) acc := ⟨h.ri, by have := h.len; omega, fun p m => by
  obtain ⟨a, b, k, r⟩ := h.mem p m
  exact ⟨a, b, by omega, r⟩⟩
theorem LI.add {l : List Str} {i j : Nat} {acc : List (Str × Str)} (hl : Ri ltS l) (h : LI l i j acc) {x y : Str} (hx : l[i]? = some x) (hy : l[j]? = some y) : LI l i (j + 1) (acc ++ [(x, y)]) := by
  refine ⟨List.pairwise_append.mpr ⟨h.ri, List.pairwise_singleton _ _, fun p m q mq => ?_⟩, by have := h.len; simp; omega, fun p m => ?_⟩
  · simp at mq
    subst mq
    obtain ⟨a, b, k, r1, r2⟩ := h.mem p m
    rcases k with k | ⟨rfl, k⟩
    · have := Ri.lt_of hl r1 hx k
      simp [ltP, this]
    · have e : p.1 = x := by rw [hx] at r1; exact (Option.some.inj r1).symm
      have := Ri.lt_of hl r2 hy k
      simp [ltP, e, this]
  · rcases List.mem_append.mp m with m | m
    · obtain ⟨a, b, k, r⟩ := h.mem p m
      exact ⟨a, b, by omega, r⟩
    · simp at m
      subst m
      exact ⟨i, j, by omega, hx, hy⟩
theorem LI.turn {l : List Str} {i : Nat} {acc : List (Str × Str)} (h : LI l i l.length acc) : LI l (i + 1) 0 acc := ⟨h.ri, by have := h.len; rw [Nat.add_mul]; omega, fun p m => by
  obtain ⟨a, b, k, r⟩ := h.mem p m
  exact ⟨a, b, by omega, r⟩⟩
section
variable {e e1 e2 e3 : Env}
theorem par2S {i j : Nat} {r1 r2 : Env → Out D} {v w : D} (h1 : r1 e = .ok v e1) (h2 : r2 e1 = .ok w e2) (h3 : setAll [i, j] [.d v, .d w] e2 = some e3) : parS [i, j] (consMd r1 (consMd r2 nilM)) e = .ok .nx e3 := by
  unfold parS consMd
  rw [h1, bind_ok, h2]
  simp only [bind_ok, nilM, h3]
theorem app1 {i : Nat} {ra : Env → Out D} {d : D} {l : List D} (h0 : e[i]? = some (.own (.L l))) (h : ra e = .ok d e) (hz : l.length < sizeLine) : appS i ra e = .ok .nx (e.set i (.own (.L (l ++ [d])))) := by
  unfold appS
  rw [h0]
  simp only [lstOf, h, bind_ok, h0, hz, if_true, putOv]
end
theorem links_ok {l : List Str} {p : Int × Int} (hp : PO p) (h : Bl l) : ∃ (w : List (Str × Str)) (p' : Int × Int), PO p' ∧ Wk l w ∧ f_law_links [.bor (pd p), .dat (.lst (l.map .str))] = .ok (.lst (w.map dP)) [.bor (pd p'), .dat (.lst (l.map .str))] := by
  suffices h : Wp (f_law_links [.bor (pd p), .dat (.lst (l.map .str))]) fun d svs => ∃ w p', PO p' ∧ Wk l w ∧ d = .lst (w.map dP) ∧ svs = [.bor (pd p'), .dat (.lst (l.map .str))] by
    obtain ⟨d, svs, e, w, p', q1, q2, rfl, rfl⟩ := h
    exact ⟨w, p', q1, q2, e⟩
  refine fn_wp ?_
  unfold b_law_links
  obtain ⟨wy, p1, hp1, wy0, wy1, c1⟩ := callT (e := [.bor (pd p), .dat (.lst (l.map .str)), .un, .un, .un, .un, .un, .un, .un, .un, .un, .un]) (i := 0) (u := 8) rfl hp cn1 (by decide) (by decide)
  obtain ⟨th, p2, hp2, th0, th1, c2⟩ := callT (e := [.bor (pd p1), .dat (.lst (l.map .str)), .un, .un, .un, .un, .un, .un, .un, .un, .un, .un]) (i := 0) (u := 3) rfl hp1 cn1 (by decide) (by decide)
  obtain ⟨wy, rfl⟩ := Int.eq_ofNat_of_zero_le wy0
  refine wp_seq (wp_eq (a := .nx) (e := [.bor (pd p2), .dat (.lst (l.map .str)), .dat (.int wy), .dat (.int (1 + th)), .own (.L (([] : List (Str × Str)).map dP)), fr none, fr none, fr none, fr none, fr none, fr none, fr none]) ?_ ?_)
  · have c2' : bin2 (pur2 addF) (constD (.int 1)) (callS (fnCall f_law_take) (posA []) (consRr 0 (consRd (constD (.int 3)) nilR)) nilR) [.bor (pd p1), .dat (.lst (l.map .str)), .un, .un, .un, .un, .un, .un, .un, .un, .un, .un] = .ok (.int (1 + th)) [.bor (pd p2), .dat (.lst (l.map .str)), .un, .un, .un, .un, .un, .un, .un, .un, .un, .un] := bin1 cn1 c2 rfl
    show parS [2, 3, 4] _ [.bor (pd p), .dat (.lst (l.map .str)), .un, .un, .un, .un, .un, .un, .un, .un, .un, .un] = _
    unfold parS consMd
    rw [c1, bind_ok]
    show (((bin2 (pur2 addF) (constD (.int 1)) (callS (fnCall f_law_take) (posA []) (consRr 0 (consRd (constD (.int 3)) nilR)) nilR) [.bor (pd p1), .dat (.lst (l.map .str)), .un, .un, .un, .un, .un, .un, .un, .un, .un, .un]).bind _).bind _).bind _ = _
    rw [c2', bind_ok]
    rfl
  refine wp_seq (wp_for (fun i e => ∃ q acc o5 o6 o7 o8 o9 o10 o11, e = [.bor (pd q), .dat (.lst (l.map .str)), .dat (.int wy), .dat (.int (1 + th)), .own (.L (acc.map dP)), fr o5, fr o6, fr o7, fr o8, fr o9, fr o10, fr o11] ∧ PO q ∧ LI l i 0 acc) (enL (l.map .str)) _ rfl ⟨p2, [], none, none, none, none, none, none, none, rfl, hp2, List.Pairwise.nil, Nat.zero_le _, fun p m => by simp at m⟩ ?_ ?_)
  · rintro i d e hd ⟨q, acc, o5, o6, o7, o8, o9, o10, o11, rfl, hq, hi⟩
    obtain ⟨x, hx, rfl⟩ := enL_at hd
    rw [List.getElem?_map] at hx
    cases hs : l[i]? with
    | none => rw [hs] at hx; cases hx
    | some a =>
      rw [hs] at hx; cases hx
      refine ⟨_, tg2 (by decide) rfl rfl, ?_, ?_⟩
      · simp [keepsB, freeE, fr_B, fr_O, b_dat, b_bor, b_own, o_dat]
      refine wp_seq (wp_for (fun j e => ∃ q acc o7 o8 o9 o10 o11, e = [.bor (pd q), .dat (.lst (l.map .str)), .dat (.int wy), .dat (.int (1 + th)), .own (.L (acc.map dP)), .dat (.int i), .dat (.str a), fr o7, fr o8, fr o9, fr o10, fr o11] ∧ PO q ∧ LI l i j acc) (enL (l.map .str)) _ rfl ⟨q, acc, o7, o8, o9, o10, o11, rfl, hq, hi⟩ ?_ ?_)
      · rintro j d e hd ⟨q, acc, o7, o8, o9, o10, o11, rfl, hq, hi⟩
        obtain ⟨x, hx, rfl⟩ := enL_at hd
        rw [List.getElem?_map] at hx
        cases hj : l[j]? with
        | none => rw [hj] at hx; cases hx
        | some b =>
          rw [hj] at hx; cases hx
          refine ⟨_, tg2 (by decide) rfl rfl, ?_, ?_⟩
          · simp [keepsB, freeE, fr_B, fr_O, b_dat, b_bor, b_own, o_dat]
          have lot : ∃ (q' : Int × Int) (lt : Bool), PO q' ∧ andD (bin2 (pur2 gtF) (nameD 2) (constD (.int 4))) (bin2 (pur2 ltF) (callS (fnCall f_law_take) (posA []) (consRr 0 (consRd (constD (.int 6)) nilR)) nilR) (nameD 3)) [.bor (pd q), .dat (.lst (l.map .str)), .dat (.int wy), .dat (.int (1 + th)), .own (.L (acc.map dP)), .dat (.int i), .dat (.str a), .dat (.int j), .dat (.str b), fr o9, fr o10, fr o11] = .ok (.bl lt) [.bor (pd q'), .dat (.lst (l.map .str)), .dat (.int wy), .dat (.int (1 + th)), .own (.L (acc.map dP)), .dat (.int i), .dat (.str a), .dat (.int j), .dat (.str b), fr o9, fr o10, fr o11] := by
            by_cases hw : 4 < wy
            · obtain ⟨r, q', hq', _, _, cr⟩ := callT (e := [.bor (pd q), .dat (.lst (l.map .str)), .dat (.int wy), .dat (.int (1 + th)), .own (.L (acc.map dP)), .dat (.int i), .dat (.str a), .dat (.int j), .dat (.str b), fr o9, fr o10, fr o11]) (i := 0) (u := 6) rfl hq cn1 (by decide) (by decide)
              have g : gtF (.int (wy : Int)) (.int 4) = some (.bl true) := by
                have : (4 : Int) < wy := by omega
                simp [cmpF, this]
              exact ⟨q', _, hq', andD2 (bin1 (nm1 rfl) cn1 g) (bin1 cr (nm1 rfl) rfl)⟩
            · have g : gtF (.int (wy : Int)) (.int 4) = some (.bl false) := by
                have : ¬ (4 : Int) < wy := by omega
                simp [cmpF, this]
              exact ⟨q, false, hq, andD1 (bin1 (nm1 rfl) cn1 g)⟩
          obtain ⟨q', lt, hq', cl⟩ := lot
          have hlen : (0 : Int) < (l.length : Int) := by have := h.lo; omega
          have near : ∀ (sl : Nat) (e : Env) (k m : Nat), e[sl]? = some (.dat (.int k)) → e[1]? = some (.dat (.lst (l.map .str))) → ∀ (sm : Nat), e[sm]? = some (.dat (.int m)) → ∃ nb, bin2 (pur2 (eqF false)) (bin2 (pur2 modF) (bin2 (pur2 addF) (nameD sl) (constD (.int 1))) (callD (one lenF) (consA (nameD 1) nilA))) (nameD sm) e = .ok (.bl nb) e := fun sl e k m e1 e2 sm e3 =>
            ⟨_, bin1 (bin1 (bin1 (nm1 e1) cn1 rfl) (callo (nm1 e2) (len_lm _ _)) (mod_int hlen)) (nm1 e3) (eqF_int false _ _)⟩
          obtain ⟨nb, cn⟩ := near 5 [.bor (pd q'), .dat (.lst (l.map .str)), .dat (.int wy), .dat (.int (1 + th)), .own (.L (acc.map dP)), .dat (.int i), .dat (.str a), .dat (.int j), .dat (.str b), fr o9, fr o10, fr o11] i j rfl rfl 7 rfl
          refine wp_seq (wp_eq (a := .nx) (e := [.bor (pd q'), .dat (.lst (l.map .str)), .dat (.int wy), .dat (.int (1 + th)), .own (.L (acc.map dP)), .dat (.int i), .dat (.str a), .dat (.int j), .dat (.str b), .dat (.bl lt), .dat (.bl nb), fr o11]) (par2S cl cn ?_) ?_)
          · cases o9 <;> cases o10 <;> rfl
          have back : ∃ bk, orD (nameD 10) (bin2 (pur2 (eqF false)) (bin2 (pur2 modF) (bin2 (pur2 addF) (nameD 7) (constD (.int 1))) (callD (one lenF) (consA (nameD 1) nilA))) (nameD 5)) [.bor (pd q'), .dat (.lst (l.map .str)), .dat (.int wy), .dat (.int (1 + th)), .own (.L (acc.map dP)), .dat (.int i), .dat (.str a), .dat (.int j), .dat (.str b), .dat (.bl lt), .dat (.bl nb), fr o11] = .ok (.bl bk) [.bor (pd q'), .dat (.lst (l.map .str)), .dat (.int wy), .dat (.int (1 + th)), .own (.L (acc.map dP)), .dat (.int i), .dat (.str a), .dat (.int j), .dat (.str b), .dat (.bl lt), .dat (.bl nb), fr o11] := by
            obtain ⟨n2, c⟩ := near 7 [.bor (pd q'), .dat (.lst (l.map .str)), .dat (.int wy), .dat (.int (1 + th)), .own (.L (acc.map dP)), .dat (.int i), .dat (.str a), .dat (.int j), .dat (.str b), .dat (.bl lt), .dat (.bl nb), fr o11] j i rfl rfl 5 rfl
            cases nb with
            | true => exact ⟨true, orD1 (nm1 rfl)⟩
            | false => exact ⟨n2, orD2 (nm1 rfl) c⟩
          obtain ⟨bk, cb⟩ := back
          refine wp_seq (wp_eq (a := .nx) (e := [.bor (pd q'), .dat (.lst (l.map .str)), .dat (.int wy), .dat (.int (1 + th)), .own (.L (acc.map dP)), .dat (.int i), .dat (.str a), .dat (.int j), .dat (.str b), .dat (.bl lt), .dat (.bl nb), .dat (.bl bk)]) (asg1 cb (setD_fr rfl) ?_) ?_)
          · simp [keepsB, freeE, fr_B, fr_O, b_dat, b_bor, b_own, o_dat]
          have orb : ∃ ob, orD (nameD 10) (nameD 9) [.bor (pd q'), .dat (.lst (l.map .str)), .dat (.int wy), .dat (.int (1 + th)), .own (.L (acc.map dP)), .dat (.int i), .dat (.str a), .dat (.int j), .dat (.str b), .dat (.bl lt), .dat (.bl nb), .dat (.bl bk)] = .ok (.bl ob) [.bor (pd q'), .dat (.lst (l.map .str)), .dat (.int wy), .dat (.int (1 + th)), .own (.L (acc.map dP)), .dat (.int i), .dat (.str a), .dat (.int j), .dat (.str b), .dat (.bl lt), .dat (.bl nb), .dat (.bl bk)] := by
            cases nb with
            | true => exact ⟨true, orD1 (nm1 rfl)⟩
            | false => exact ⟨lt, orD2 (nm1 rfl) (nm1 rfl)⟩
          obtain ⟨ob, co⟩ := orb
          let bl8 : List Bool := [false, nb, bk, decide ((i : Int) = (j : Int)), true, lt, lt, ob]
          have h8 : wy < bl8.length := by show wy < 8; omega
          have cx : bin2 (pur2 ixF) (heldD (lstF (consA (constD (.bl false)) (consA (nameD 10) (consA (nameD 11) (consA (bin2 (pur2 (eqF false)) (nameD 5) (nameD 7)) (consA (constD (.bl true)) (consA (nameD 9) (consA (nameD 9) (consA (orD (nameD 10) (nameD 9)) nilA)))))))))) (nameD 2) [.bor (pd q'), .dat (.lst (l.map .str)), .dat (.int wy), .dat (.int (1 + th)), .own (.L (acc.map dP)), .dat (.int i), .dat (.str a), .dat (.int j), .dat (.str b), .dat (.bl lt), .dat (.bl nb), .dat (.bl bk)] = .ok (.bl bl8[wy]) [.bor (pd q'), .dat (.lst (l.map .str)), .dat (.int wy), .dat (.int (1 + th)), .own (.L (acc.map dP)), .dat (.int i), .dat (.str a), .dat (.int j), .dat (.str b), .dat (.bl lt), .dat (.bl nb), .dat (.bl bk)] :=
            bin1 (x := .lst (bl8.map .bl)) (held_ok (lst1 (consA2 cn1 (consA2 (nm1 rfl) (consA2 (nm1 rfl) (consA2 (bin1 (nm1 rfl) (nm1 rfl) (eqF_int false _ _)) (consA2 cn1 (consA2 (nm1 rfl) (consA2 (nm1 rfl) (consA1 co)))))))) (show 8 ≤ sizeLine by decide))) (nm1 rfl) (ix_lst (by rw [List.getElem?_map, List.getElem?_eq_getElem h8]; rfl))
          have hz : (acc.map dP).length < sizeLine := by
            rw [List.length_map]
            have h1 := hi.len
            have h2 := h.hi
            have hil : i < l.length := (List.getElem?_eq_some_iff.mp hs).1
            have hjl : j < l.length := (List.getElem?_eq_some_iff.mp hj).1
            have : i * l.length ≤ 12 * 12 := Nat.mul_le_mul (by omega) h2
            have : (1000 : Nat) ≤ sizeLine := by decide
            omega
          cases hb : bl8[wy] with
          | false =>
            rw [hb] at cx
            refine wp_seq (wp_eq (ifSf (val1 cx) rfl) (wp_nx.mpr ⟨rfl, q', acc, some _, some _, some _, some _, some _, rfl, hq', hi.skip⟩))
          | true =>
            rw [hb] at cx
            refine wp_seq (wp_eq (ifSt (val1 cx) (r1 := seqS (appS 4 (tupD (consA (nameD 6) (consA (nameD 8) nilA)))) nextS) (fl := .nx) (e2 := [.bor (pd q'), .dat (.lst (l.map .str)), .dat (.int wy), .dat (.int (1 + th)), .own (.L ((acc ++ [(a, b)]).map dP)), .dat (.int i), .dat (.str a), .dat (.int j), .dat (.str b), .dat (.bl lt), .dat (.bl nb), .dat (.bl bk)]) ?_) (wp_nx.mpr ⟨rfl, q', acc ++ [(a, b)], some _, some _, some _, some _, some _, rfl, hq', hi.add h.ri hs hj⟩))
            unfold seqS
            rw [app1 (d := dP (a, b)) rfl (tup1 (consA2 (nm1 rfl) (consA1 (nm1 rfl))) (show 2 ≤ sizeLine by decide)) hz, bind_ok, List.map_append]
            rfl
      · rintro e' ⟨q, acc, o7, o8, o9, o10, o11, rfl, hq, hi⟩
        rw [enL_len, List.length_map] at hi
        exact wp_nx.mpr ⟨rfl, q, acc, some _, some _, o7, o8, o9, o10, o11, rfl, hq, hi.turn⟩
  · rintro e' ⟨q, acc, o5, o6, o7, o8, o9, o10, o11, rfl, hq, hi⟩
    rw [enL_len, List.length_map] at hi
    refine wp_seq (wp_eq (ret1 (d := .lst (acc.map dP)) (e1 := [.bor (pd q), .dat (.lst (l.map .str)), .dat (.int wy), .dat (.int (1 + th)), .dat (.lst (acc.map dP)), fr o5, fr o6, fr o7, fr o8, fr o9, fr o10, fr o11]) rfl) ?_)
    refine ⟨acc, q, hq, ⟨fun p m => ?_, hi.ri, ?_⟩, rfl, rfl⟩
    · obtain ⟨a, b, _, r1, r2⟩ := hi.mem p m
      exact ⟨List.mem_of_getElem? r1, List.mem_of_getElem? r2⟩
    · have := hi.len
      have h12 := h.hi
      have : l.length * l.length ≤ 12 * 12 := Nat.mul_le_mul h12 h12
      omega
end DL.K04

/-! ==== GMH_K04 -/
namespace DL.K04
open PySem L2
theorem bl_sub {l m : List Str} (h : Bl l) (s : m.Sublist l) (ne : m ≠ []) : Bl m :=
  ⟨List.length_pos_iff.mpr ne, Nat.le_trans s.length_le h.hi, fun x q => h.nm x (s.subset q), List.Pairwise.sublist s h.ri⟩
theorem some_ok {l : List Str} {p : Int × Int} (hp : PO p) (h : Bl l) : ∃ (m : List Str) (p' : Int × Int), PO p' ∧ Bl m ∧ (∀ s ∈ m, s ∈ l) ∧ f_law_some [.bor (pd p), .dat (.lst (l.map .str))] = .ok (.lst (m.map .str)) [.bor (pd p'), .dat (.lst (l.map .str))] := by
  suffices h : Wp (f_law_some [.bor (pd p), .dat (.lst (l.map .str))]) fun d svs => ∃ m p', PO p' ∧ Bl m ∧ (∀ s ∈ m, s ∈ l) ∧ d = .lst (m.map .str) ∧ svs = [.bor (pd p'), .dat (.lst (l.map .str))] by
    obtain ⟨d, svs, e, m, p', q1, q2, q3, rfl, rfl⟩ := h
    exact ⟨m, p', q1, q2, q3, e⟩
  refine fn_wp ?_
  unfold b_law_some
  obtain ⟨ys, p1, hc, hp1, hsub⟩ := compF_sub (vs := [3]) (ri := itA (nameD 1)) (rg := setD 3) (rt := valT (bin2 (pur2 gtF) (callS (fnCall f_law_take) (posA []) (consRr 0 (consRd (constD (.int 3)) nilR)) nilR) (constD (.int 0)))) (re := nameD 3) (env := [.bor (pd p), .dat (.lst (l.map .str)), .un, .un]) (e1 := [.bor (pd p), .dat (.lst (l.map .str)), .un, .un]) (l.map .str) p (fun q => [.bor (pd q), .dat (.lst (l.map .str)), .un, .un]) PO (itL1 (nm1 rfl)) rfl (by rw [List.length_map]; exact Nat.le_trans h.hi (by decide)) rfl hp (fun d q m hq => by
    obtain ⟨r, q', hq', _, _, cr⟩ := callT (e := [.bor (pd q), .dat (.lst (l.map .str)), .un, .dat d]) (i := 0) (u := 3) rfl hq cn1 (by decide) (by decide)
    exact ⟨[.bor (pd q), .dat (.lst (l.map .str)), .un, .dat d], _, [.bor (pd q'), .dat (.lst (l.map .str)), .un, .dat d], q', rfl, rfl, val1 (bin1 cr cn1 rfl), rfl, nm1 rfl, hq', rfl⟩)
  obtain ⟨m, ms, rfl⟩ := List.sublist_map_iff.mp hsub
  refine wp_seq (wp_eq (a := .nx) (e := [.bor (pd p1), .dat (.lst (l.map .str)), .dat (.lst (m.map .str)), .un]) (asg1 (held_ok hc) rfl rfl) ?_)
  have ok0 : ∀ s ∈ ([] : List Str), SOk s := fun s q => by simp at q
  have okm : ∀ s ∈ m, SOk s := fun s q => h.sok s (ms.subset q)
  have ce := eqF_lS true okm ok0
  by_cases hm : m = []
  · subst hm
    obtain ⟨r, q', hq', r0, r1, cr⟩ := callT (e := [.bor (pd p1), .dat (.lst (l.map .str)), .dat (.lst ((([] : List Str)).map .str)), .un]) (i := 0) (ru := callD (one lenF) (consA (nameD 1) nilA)) (u := (l.length : Int)) rfl hp1 (callo (nm1 rfl) (len_lm _ _)) (by have := h.lo; omega) (by have := h.hi; omega)
    obtain ⟨r, rfl⟩ := Int.eq_ofNat_of_zero_le r0
    have hr : r < l.length := by omega
    refine wp_seq (wp_eq (ret1 (ifDf (val1 (bin1 (nm1 rfl) (held_ok (lst1 rfl (Nat.zero_le _))) (ce.trans (by simp [tst])))) (held_ok (lst1 (consA1 (bin1 (nm1 rfl) cr (ix_lst (d := .str l[r]) (by rw [List.getElem?_map, List.getElem?_eq_getElem hr]; rfl)))) (show 1 ≤ sizeLine by decide))))) ?_)
    have ml : l[r] ∈ l := List.getElem_mem hr
    exact ⟨[l[r]], q', hq', bl_one h ml, fun s q => by simp at q; subst q; exact ml, rfl, rfl⟩
  · refine wp_seq (wp_eq (ret1 (ifDt (val1 (bin1 (nm1 rfl) (held_ok (lst1 rfl (Nat.zero_le _))) (ce.trans (by simp [tst, hm])))) (nm1 (d := .lst (m.map .str)) rfl))) ?_)
    exact ⟨m, p1, hp1, bl_sub h ms hm, fun s q => ms.subset q, rfl, rfl⟩
end DL.K04

/-! ==== GMI_K04 -/
namespace DL.K04
open PySem L2
theorem mem_ow {m : List Str} {w : List (Str × Str)} {p : Str × Str} : p ∈ ow m w ↔ p ∈ w ∧ p.1 ∈ m ∧ p.2 ∈ m := by
  unfold ow
  rw [List.mem_filter]
  simp
theorem ow_ow {m k : List Str} {w : List (Str × Str)} (h : ∀ s ∈ k, s ∈ m) : ow k (ow m w) = ow k w := by
  unfold ow
  rw [List.filter_filter]
  refine List.filter_congr fun p _ => ?_
  by_cases h1 : p.1 ∈ k
  · by_cases h2 : p.2 ∈ k
    · simp [h1, h2, h _ h1, h _ h2]
    · simp [h2]
  · simp [h1]
theorem tw_ow {m : List Str} {w : List (Str × Str)} (h : Ri ltP w) : tw (ow m w) = ow m (tw w) := by
  have h1 : Ri ltP (ow m w) := h.filter _
  have h2 : Ri ltP (ow m (tw w)) := (ri_tw h).filter _
  exact (ri_tw h1).eq ordP h2 fun p => by
    rw [mem_tw, mem_ow, mem_ow, mem_tw]
    exact ⟨fun ⟨a, b, c⟩ => ⟨a, c, b⟩, fun ⟨a, b, c⟩ => ⟨a, c, b⟩⟩
def xw (m : List Str) (w : List (Str × Str)) : List (Str × Str) := w.filter fun p => !(decide (p.1 ∈ m) == decide (p.2 ∈ m))
def rest (m l : List Str) : List Str := l.filter fun s => !decide (s ∈ m)
theorem parts_eq {l m : List Str} {w : List (Str × Str)} (hw : Wk l w) : srt ltP (ow m w ++ ow (rest m l) w ++ xw m w) = w := by
  have mr : ∀ s, s ∈ rest m l ↔ s ∈ l ∧ s ∉ m := fun s => by unfold rest; simp
  have nd := hw.ri.nodup ordP
  have mx : ∀ p, p ∈ xw m w ↔ p ∈ w ∧ ¬ (p.1 ∈ m ↔ p.2 ∈ m) := fun p => by
    unfold xw
    rw [List.mem_filter]
    by_cases a : p.1 ∈ m <;> by_cases b : p.2 ∈ m <;> simp [a, b]
  have n : (ow m w ++ ow (rest m l) w ++ xw m w).Nodup := by
    rw [List.nodup_append, List.nodup_append]
    refine ⟨⟨nd.filter _, nd.filter _, fun p a q b e => ?_⟩, nd.filter _, fun p a q b e => ?_⟩
    · subst e
      have a := (mem_ow.mp a).2
      have b := (mem_ow.mp b).2
      exact ((mr _).mp b.1).2 a.1
    · subst e
      have b := ((mx _).mp b).2
      rcases List.mem_append.mp a with a | a
      · have a := (mem_ow.mp a).2
        exact b ⟨fun _ => a.2, fun _ => a.1⟩
      · have a := (mem_ow.mp a).2
        exact b ⟨fun z => absurd z ((mr _).mp a.1).2, fun z => absurd z ((mr _).mp a.2).2⟩
  refine (srt_ri ordP n).eq ordP hw.ri fun p => ?_
  rw [srt_mem, List.mem_append, List.mem_append, mem_ow, mem_ow, mx, mr, mr]
  constructor
  · rintro ((⟨h, _⟩ | ⟨h, _⟩) | ⟨h, _⟩) <;> exact h
  · intro h
    obtain ⟨l1, l2⟩ := hw.mem p h
    by_cases a : p.1 ∈ m <;> by_cases b : p.2 ∈ m
    · exact .inl (.inl ⟨h, a, b⟩)
    · exact .inr ⟨h, fun z => b (z.mp a)⟩
    · exact .inr ⟨h, fun z => a (z.mpr b)⟩
    · exact .inl (.inr ⟨h, ⟨l1, a⟩, l2, b⟩)
theorem list1 {α : Type} {f : α → D} {ra : Env → Out D} {e e1 : Env} {l : List D} (h : ra e = .ok (.tup l) e1) : listF (consA ra nilA) e = .ok l e1 := by
  unfold listF
  rw [consA1 h]
  rfl
theorem tuple1 {ra : Env → Out D} {e e1 : Env} {l : List D} (h : ra e = .ok (.lst l) e1) : callD (one tupleF) (consA ra nilA) e = .ok (.tup l) e1 := callo h rfl
theorem parts_ok {l : List Str} {w : List (Str × Str)} {p : Int × Int} (hp : PO p) (h : Bl l) (hw : Wk l w) : ∃ p', PO p' ∧ f_law_parts_right [.bor (pd p), .dat (webD l w)] = .ok (.bl true) [.bor (pd p'), .dat (webD l w)] := by
  suffices h : Wp (f_law_parts_right [.bor (pd p), .dat (webD l w)]) fun d svs => ∃ p', PO p' ∧ d = .bl true ∧ svs = [.bor (pd p'), .dat (webD l w)] by
    obtain ⟨d, svs, e, p', q1, rfl, rfl⟩ := h
    exact ⟨p', q1, e⟩
  refine fn_wp ?_
  unfold b_law_parts_right
  obtain ⟨m, p1, hp1, hm, sub, c1⟩ := some_ok hp h
  obtain ⟨k, p2, hp2, hk, subk, c2⟩ := some_ok hp1 hm
  have subl : ∀ s ∈ k, s ∈ l := fun s q => sub s (subk s q)
  refine wp_seq (wp_eq (a := .nx) (e := [.bor (pd p1), .dat (webD l w), .dat (.lst (m.map .str)), .un, .un, .un, .un, .un, .un, .un]) (asg1 (callRd (e := [.bor (pd p), .dat (webD l w), .un, .un, .un, .un, .un, .un, .un, .un]) ⟨pd p, rfl⟩ (held_ok (list1 (f := D.str) (fld1 (nm1 rfl) (fld_bells l w)))) rfl c1) rfl rfl) ?_)
  refine wp_seq (wp_eq (a := .nx) (e := [.bor (pd p2), .dat (webD l w), .dat (.lst (m.map .str)), .dat (.lst (k.map .str)), .un, .un, .un, .un, .un, .un]) (asg1 (callRd (e := [.bor (pd p1), .dat (webD l w), .dat (.lst (m.map .str)), .un, .un, .un, .un, .un, .un, .un]) ⟨pd p1, rfl⟩ (nm1 rfl) rfl c2) rfl rfl) ?_)
  have hz : l.length ≤ sizeLine := Nat.le_trans h.hi (by decide)
  have hzw : w.length ≤ sizeLine := Nat.le_trans hw.len (by decide)
  have cr : compF [8] (itA (fldD ("Web" : Str) ("bells" : Str) (nameD 1))) (setD 8) (valT (bin2 (pur2 (inF true)) (nameD 8) (nameD 2))) (nameD 8) [.bor (pd p2), .dat (webD l w), .dat (.lst (m.map .str)), .dat (.lst (k.map .str)), .un, .un, .un, .un, .un, .un] = .ok ((rest m l).map .str) [.bor (pd p2), .dat (webD l w), .dat (.lst (m.map .str)), .dat (.lst (k.map .str)), .un, .un, .un, .un, .un, .un] :=
    compF_map (f := D.str) (itT1 (fld1 (nm1 rfl) (fld_bells l w))) rfl hz rfl fun s q => ⟨[.bor (pd p2), .dat (webD l w), .dat (.lst (m.map .str)), .dat (.lst (k.map .str)), .un, .un, .un, .un, .dat (.str s), .un], rfl, rfl, rfl, val1 (bin1 (nm1 rfl) (nm1 rfl) (inF_lS true s m)), fun _ => rfl⟩
  refine wp_seq (wp_eq (a := .nx) (e := [.bor (pd p2), .dat (webD l w), .dat (.lst (m.map .str)), .dat (.lst (k.map .str)), .dat (.lst ((rest m l).map .str)), .un, .un, .un, .un, .un]) (asg1 (held_ok cr) rfl rfl) ?_)
  have o1 := only_ok h hw hm sub
  refine wp_seq (wp_eq (a := .nx) (e := [.bor (pd p2), .dat (webD l w), .dat (.lst (m.map .str)), .dat (.lst (k.map .str)), .dat (.lst ((rest m l).map .str)), .dat (webD m (ow m w)), .un, .un, .un, .un]) (asg1 (meth1 c_only (nm1 rfl) (tuple1 (nm1 rfl)) o1) rfl rfl) ?_)
  have hwm : Wk m (ow m w) := wk_ow hw
  have hwk : Wk k (ow k w) := wk_ow hw
  have o2 := only_ok hm hwm hk subk
  rw [ow_ow subk] at o2
  have o3 := only_ok h hw hk subl
  have t1 := turned_ok hm hwm
  have t2 := turned_ok h hw
  have o4 := only_ok h (wk_tw hw) hm sub
  rw [← tw_ow hw.ri] at o4
  refine wp_seq (wp_eq (a := .nx) (e := [.bor (pd p2), .dat (webD l w), .dat (.lst (m.map .str)), .dat (.lst (k.map .str)), .dat (.lst ((rest m l).map .str)), .dat (webD m (ow m w)), .un, .un, .un, .un]) (ifSf (or2 (val1 (eqa_web true hk hwk hk hwk (meth1 c_only (nm1 rfl) (tuple1 (nm1 rfl)) o2) (meth1 c_only (nm1 rfl) (tuple1 (nm1 rfl)) o3) (b := false) (by simp [tst]))) (val1 (eqa_web true hm (wk_tw hwm) hm (wk_tw hwm) (meth0 c_turned (nm1 rfl) t1) (meth1 c_only (meth0 c_turned (nm1 rfl) t2) (tuple1 (nm1 rfl)) o4) (b := false) (by simp [tst])))) rfl) ?_)
  have ca : compF [9] (itA (fldD ("Web" : Str) ("wakes" : Str) (nameD 1))) (setD 9) (valT (bin2 (pur2 (eqF true)) (bin2 (pur2 (inF false)) (bin2 (pur2 ixF) (nameD 9) (constD (.int 0))) (nameD 2)) (bin2 (pur2 (inF false)) (bin2 (pur2 ixF) (nameD 9) (constD (.int 1))) (nameD 2)))) (nameD 9) [.bor (pd p2), .dat (webD l w), .dat (.lst (m.map .str)), .dat (.lst (k.map .str)), .dat (.lst ((rest m l).map .str)), .dat (webD m (ow m w)), .un, .un, .un, .un] = .ok ((xw m w).map dP) [.bor (pd p2), .dat (webD l w), .dat (.lst (m.map .str)), .dat (.lst (k.map .str)), .dat (.lst ((rest m l).map .str)), .dat (webD m (ow m w)), .un, .un, .un, .un] :=
    compF_map (f := dP) (itT1 (fld1 (nm1 rfl) (fld_wakes l w))) rfl hzw rfl fun s q => ⟨[.bor (pd p2), .dat (webD l w), .dat (.lst (m.map .str)), .dat (.lst (k.map .str)), .dat (.lst ((rest m l).map .str)), .dat (webD m (ow m w)), .un, .un, .un, .dat (dP s)], rfl, rfl, rfl, val1 (bin1 (bin1 (bin1 (nm1 rfl) cn1 (d := .str s.1) rfl) (nm1 rfl) (inF_lS false _ m)) (bin1 (bin1 (nm1 rfl) cn1 (d := .str s.2) rfl) (nm1 rfl) (inF_lS false _ m)) (eqF_bl true _ _)), fun _ => rfl⟩
  refine wp_seq (wp_eq (a := .nx) (e := [.bor (pd p2), .dat (webD l w), .dat (.lst (m.map .str)), .dat (.lst (k.map .str)), .dat (.lst ((rest m l).map .str)), .dat (webD m (ow m w)), .dat (.lst ((xw m w).map dP)), .un, .un, .un]) (asg1 (held_ok ca) rfl rfl) ?_)
  refine wp_seq (wp_eq (a := .nx) (e := [.bor (pd p2), .dat (webD l w), .dat (.lst (m.map .str)), .dat (.lst (k.map .str)), .dat (.lst ((rest m l).map .str)), .dat (webD m (ow m w)), .dat (.lst ((xw m w).map dP)), .dat (.lst (([] : List (Str × Str)).map dP)), .un, .un]) (asg1 (held_ok (lst1 rfl (Nat.zero_le _))) rfl rfl) ?_)
  have rs : (rest m l).Sublist l := List.filter_sublist
  have cn := eqF_lS true (l := rest m l) (m := []) (fun s q => h.sok s (rs.subset q)) (fun s q => by simp at q)
  refine wp_seq (wp_eq (a := .nx) (e := [.bor (pd p2), .dat (webD l w), .dat (.lst (m.map .str)), .dat (.lst (k.map .str)), .dat (.lst ((rest m l).map .str)), .dat (webD m (ow m w)), .dat (.lst ((xw m w).map dP)), .dat (.lst ((ow (rest m l) w).map dP)), .un, .un]) ?_ ?_)
  · by_cases hr : rest m l = []
    · rw [hr] at cn ⊢
      have e0 : ow [] w = [] := by unfold ow; simp
      rw [e0]
      exact ifSf (val1 (bin1 (nm1 rfl) (held_ok (lst1 rfl (Nat.zero_le _))) (cn.trans (by simp [tst])))) rfl
    · have o5 := only_ok h hw (bl_sub h rs hr) (fun s q => rs.subset q)
      refine ifSt (val1 (bin1 (nm1 rfl) (held_ok (lst1 rfl (Nat.zero_le _))) (cn.trans (by simp [tst, hr])))) ?_
      unfold seqS
      rw [asg1 (e2 := [.bor (pd p2), .dat (webD l w), .dat (.lst (m.map .str)), .dat (.lst (k.map .str)), .dat (.lst ((rest m l).map .str)), .dat (webD m (ow m w)), .dat (.lst ((xw m w).map dP)), .dat (.lst ((ow (rest m l) w).map dP)), .un, .un]) (held_ok (list1 (f := dP) (fld1 (meth1 c_only (nm1 rfl) (tuple1 (nm1 rfl)) o5) (fld_wakes _ _)))) rfl rfl]
      rfl
  have lo : (ow m w).length ≤ 144 := hwm.len
  have lr : (ow (rest m l) w).length ≤ 144 := Nat.le_trans (List.length_filter_le _ _) hw.len
  have lx : (xw m w).length ≤ 144 := Nat.le_trans (List.length_filter_le _ _) hw.len
  have s1000 : (1000 : Nat) ≤ sizeLine := by decide
  have a1 : addF (.lst ((ow m w).map dP)) (.lst ((ow (rest m l) w).map dP)) = some (.lst ((ow m w ++ ow (rest m l) w).map dP)) := by
    have : ((ow m w).map dP).length + ((ow (rest m l) w).map dP).length ≤ sizeLine := by simp only [List.length_map]; omega
    simp only [addF, this, if_true, List.map_append]
  have a2 : addF (.lst ((ow m w ++ ow (rest m l) w).map dP)) (.lst ((xw m w).map dP)) = some (.lst ((ow m w ++ ow (rest m l) w ++ xw m w).map dP)) := by
    have : ((ow m w ++ ow (rest m l) w).map dP).length + ((xw m w).map dP).length ≤ sizeLine := by simp only [List.length_map, List.length_append]; omega
    unfold addF
    dsimp only
    rw [if_pos this, ← List.map_append]
  have so := fun (p : Str × Str) (q : p ∈ w) => (⟨h.sok _ (hw.mem p q).1, h.sok _ (hw.mem p q).2⟩ : SOk p.1 ∧ SOk p.2)
  have ss := sort_P (ra := consA (bin2 (pur2 addF) (bin2 (pur2 addF) (heldD (listF (consA (fldD ("Web" : Str) ("wakes" : Str) (nameD 5)) nilA))) (nameD 7)) (nameD 6)) nilA) (e := [.bor (pd p2), .dat (webD l w), .dat (.lst (m.map .str)), .dat (.lst (k.map .str)), .dat (.lst ((rest m l).map .str)), .dat (webD m (ow m w)), .dat (.lst ((xw m w).map dP)), .dat (.lst ((ow (rest m l) w).map dP)), .un, .un]) (consA1 (bin1 (bin1 (held_ok (list1 (f := dP) (fld1 (nm1 rfl) (fld_wakes m (ow m w))))) (nm1 rfl) a1) (nm1 rfl) a2))
  rw [parts_eq hw] at ss
  refine wp_seq (wp_eq (ret1 (andD2 (bin1 (tuple1 (held_ok ss)) (fld1 (nm1 rfl) (fld_wakes l w)) ((eqF_tP false so so).trans (by simp [tst]))) (callD1 (nm1 rfl) (sums_ok hm hwm)))) ?_)
  exact ⟨p2, hp2, rfl, rfl⟩
end DL.K04

/-! ==== DM4 -/
/-! DM4: evaluation, step by step, by a tactic -/
namespace DL
open PySem L2
section
variable {e e1 e2 e3 : Env} {ra rb rc : Env → Out D} {rA : Env → Out (List D)} {ta tb : Env → Out Bool} {b k : Bool} {x y z d : D} {i j : Nat}
theorem nmO {o : OV} (h : e[i]? = some (.own o)) : nameD i e = .ok o.toD (e.set i (.dat o.toD)) := by unfold nameD; rw [h]
theorem un1' {f : D → Option D} (h : ra e = .ok x e1) (h2 : f x = some d) : un1 (pur1 f) ra e = .ok d e1 := by unfold un1; rw [h, bind_ok]; unfold pur1; rw [h2]
theorem notD1 (h : ra e = .ok (.bl b) e1) (hb : D.bl (!b) = d := by rfl) : notD ra e = .ok d e1 := by unfold notD; rw [h, ← hb]; rfl
theorem chain2 {f g : D → D → Option D} (h1 : ra e = .ok x e1) (h2 : rb e1 = .ok y e2) (h3 : f x y = some (.bl true)) (h4 : rc e2 = .ok z e3) (h5 : g y z = some d) : chainD (pur2 f) (pur2 g) ra rb rc e = .ok d e3 := by
  unfold chainD
  rw [h1, bind_ok, h2, bind_ok]
  unfold pur2
  rw [h3]
  simp only [bind_ok]
  rw [h4, bind_ok, h5]
  rfl
theorem chain1 {f g : D → D → Option D} (h1 : ra e = .ok x e1) (h2 : rb e1 = .ok y e2) (h3 : f x y = some (.bl false)) : chainD (pur2 f) (pur2 g) ra rb rc e = .ok (.bl false) e2 := by
  unfold chainD
  rw [h1, bind_ok, h2, bind_ok]
  unfold pur2
  rw [h3]
  rfl
theorem seqS1 {r1 r2 : Env → Out Fl} {fl : Fl} (h : r1 e = .ok .nx e1) (h2 : r2 e1 = .ok fl e2) : seqS r1 r2 e = .ok fl e2 := by unfold seqS; rw [h, bind_ok]; exact h2
theorem seqSr {r1 r2 : Env → Out Fl} (h : r1 e = .ok (.rt d) e1) : seqS r1 r2 e = .ok (.rt d) e1 := by unfold seqS; rw [h, bind_ok]
theorem nx1 : nextS e = .ok .nx e := rfl
theorem ifT1 {r1 r2 : Env → Out Fl} {fl : Fl} (h : ta e = .ok b e1) (h2 : (if b = true then r1 else r2) e1 = .ok fl e2) : ifS ta r1 r2 e = .ok fl e2 := by
  unfold ifS; rw [h, bind_ok]
  cases b with
  | true => exact h2
  | false => exact h2
theorem fn1 {n tot : Nat} {rb : Env → Out Fl} {svs : List SV} (h : rb (svs ++ List.replicate (tot - n) .un) = .ok (.rt d) e) (hl : svs.length = n := by rfl) : fnOf n tot rb svs = .ok d (backA svs e) := by unfold fnOf; rw [if_pos hl, h]
theorem fn0 {n tot : Nat} {rb : Env → Out Fl} {svs : List SV} (h : rb (svs ++ List.replicate (tot - n) .un) = .ok .nx e) (hl : svs.length = n := by rfl) : fnOf n tot rb svs = .ok .non (backA svs e) := by unfold fnOf; rw [if_pos hl, h]
theorem callS1 {cf : List It → Env → Out D} {gD : List It → List It → List It} {rr rk : Env → Out (List It)} {its jts : List It} (h1 : rr e = .ok its e1) (h2 : rk e1 = .ok jts e2) (h3 : cf (gD its jts) e2 = .ok d e3) (hb : refsB its e2 = true := by rfl) : callS cf gD rr rk e = .ok d e3 := by
  unfold callS
  rw [h1, bind_ok, h2, bind_ok, if_pos hb]
  exact h3
theorem cRd {rr : Env → Out (List It)} {its : List It} (h1 : ra e = .ok x e1) (h2 : rr e1 = .ok its e2) : consRd ra rr e = .ok (.d x :: its) e2 := by
  unfold consRd
  rw [h1, bind_ok, h2]; rfl
theorem cRr {rr : Env → Out (List It)} {its : List It} {o o' : OV} (h1 : ovOf e[i]? = some o) (h2 : rr e = .ok its e1) (h3 : ovOf e1[i]? = some o') : consRr i rr e = .ok (.r i :: its) e1 := by
  unfold consRr
  rw [h1, h2]
  simp only [bind_ok, h3]
theorem nR : nilR e = .ok [] e := rfl
theorem nA : nilA e = .ok [] e := rfl
theorem fnC {fn : List SV → Out D} {its : List It} {svs : List SV} (h : fn (svsOf e its) = .ok d svs) (hn : nodupB (refsOf its) = true := by rfl) : fnCall fn its e = .ok d (putBack its svs e) := by
  unfold fnCall
  rw [if_pos hn, h]
theorem fnC2 {fn : List SV → Out D} {its : List It} {svs : List SV} (h : fn (svsOf e its) = .ok d svs) (hn : nodupB (refsOf its) = true) (he : putBack its svs e = e2) : fnCall fn its e = .ok d e2 := by
  rw [← he]
  exact fnC h hn
theorem methS1 {cn m : Str} {fn : List SV → Out D} {ds : List D} {rr : Env → Out (List It)} {its : List It} {ns : List Str} {l : List D} (h1 : ra e = .ok (.obj cn ns l) e1) (h2 : rr e1 = .ok its e2) (h3 : fnCall fn (.d (.obj cn ns l) :: (its ++ ds.map .d)) e2 = .ok d e3) (hm : ns.contains m = false := by decide +kernel) (hb : refsB its e2 = true := by rfl) : methS cn m fn ds ra rr e = .ok d e3 := by
  unfold methS
  rw [h1, bind_ok]
  dsimp only
  rw [if_pos ⟨rfl, hm⟩, h2, bind_ok, if_pos hb]
  exact h3
theorem methK1 {cn m : Str} {fn : List SV → Out D} {gD : List It → List It → List It} {rr rk : Env → Out (List It)} {its jts : List It} {ns : List Str} {l : List D} (h1 : ra e = .ok (.obj cn ns l) e1) (h2 : rr e1 = .ok its e2) (h4 : rk e2 = .ok jts e3) {e4 : Env} (h3 : fnCall fn (gD (.d (.obj cn ns l) :: its) jts) e3 = .ok d e4) (hm : ns.contains m = false := by decide +kernel) (hb : refsB its e3 = true := by rfl) : methK cn m fn gD ra rr rk e = .ok d e4 := by
  unfold methK
  rw [h1, bind_ok]
  dsimp only
  rw [if_pos ⟨rfl, hm⟩, h2, bind_ok, h4, bind_ok, if_pos hb]
  exact h3
theorem asgO1 {rf : Env → Out (List D)} {l : List D} {sv : SV} (h : rf e = .ok l e1) (h2 : e1[i]? = some sv) (h3 : sv.isB = false := by rfl) : asgOS i rf e = .ok .nx (e1.set i (.own (.L l))) := by
  unfold asgOS
  rw [h, bind_ok, h2]
  simp only [h3, Bool.false_eq_true, if_false]
theorem asgV1 {rn : Env → Out OV} {o : OV} {sv : SV} (h : rn e = .ok o e1) (h2 : e1[i]? = some sv) (h3 : sv.isB = false := by rfl) : asgOV i rn e = .ok .nx (e1.set i (.own o)) := by
  unfold asgOV
  rw [h, bind_ok, h2]
  simp only [h3, Bool.false_eq_true, if_false]
theorem app1 {l l0 : List D} (h0 : lstOf e[i]? = some l0) (h : ra e = .ok d e1) (h2 : lstOf e1[i]? = some l) (h3 : l.length < sizeLine) (h4 : putOv i (.L (l ++ [d])) e1 = some e2) : appS i ra e = .ok .nx e2 := by
  unfold appS
  rw [h0, h, bind_ok, h2]
  simp only [h3, if_true, h4]
theorem ext1 {l : List D} (h : extS i ra e = .ok .nx e2) : extS i ra e = .ok .nx e2 := h
theorem par1 {is : List Nat} {rm : Env → Out (List M)} {ms : List M} (h : rm e = .ok ms e1) (h2 : setAll is ms e1 = some e2) : parS is rm e = .ok .nx e2 := by
  unfold parS
  rw [h, bind_ok, h2]
theorem parT1 {is : List Nat} {rm : Env → Out (List M)} {ms : List M} (h : rm e = .ok ms e1) (hz : ms.length ≤ sizeLine) (h2 : setAll is ms e1 = some e2) : parT is rm e = .ok .nx e2 := by
  unfold parT
  rw [h, bind_ok, if_pos hz, h2]
theorem mD {rm : Env → Out (List M)} {ms : List M} (h : ra e = .ok d e1) (h2 : rm e1 = .ok ms e2) : consMd ra rm e = .ok (.d d :: ms) e2 := by
  unfold consMd
  rw [h, bind_ok, h2]; rfl
theorem mF {rn : Env → Out OV} {o : OV} {rm : Env → Out (List M)} {ms : List M} (h : rn e = .ok o e1) (h2 : rm e1 = .ok ms e2) : consMf rn rm e = .ok (.f o :: ms) e2 := by
  unfold consMf
  rw [h, bind_ok, h2]; rfl
theorem mN : nilM e = .ok [] e := rfl
theorem newL1 {rf : Env → Out (List D)} {l : List D} (h : rf e = .ok l e1) : newL rf e = .ok (.L l) e1 := by unfold newL; rw [h]; rfl
theorem heldO1 {rn : Env → Out OV} {o : OV} (h : rn e = .ok o e1) : heldO rn e = .ok o.toD e1 := by unfold heldO; rw [h]; rfl
theorem drop1 (h : ra e = .ok d e1) : dropS ra e = .ok .nx e1 := by unfold dropS; rw [h]; rfl
theorem listF1 {l : List D} (h : rA e = .ok [.lst l] e1) : listF rA e = .ok l e1 := by unfold listF; rw [h]; rfl
theorem listF2 {l : List D} (h : rA e = .ok [.tup l] e1) : listF rA e = .ok l e1 := by unfold listF; rw [h]; rfl
theorem cat1 {l m : List D} (h : ra e = .ok (.lst l) e1) (h2 : rb e1 = .ok (.lst m) e2) (hz : l.length + m.length ≤ sizeLine) : catF ra rb e = .ok (l ++ m) e2 := by
  unfold catF
  rw [h, bind_ok, h2, bind_ok]
  simp only [hz, if_true]
theorem ownIx1 {l l0 : List D} {n : Int} (h0 : lstOf e[i]? = some l0) (h : rb e = .ok (.int n) e1) (h2 : lstOf e1[i]? = some l) (h3 : atI l n = some d) : ownIx i rb e = .ok d e1 := by
  unfold ownIx ownUse
  rw [h0, h]
  simp only [bind_ok, h2, h3]
theorem isi1 {kb : String → Option Bool} {ko : Str → Option Bool} (h : ra e = .ok x e1) (h2 : isiD kb ko (constD x) e1 = .ok d e1) : isiD kb ko ra e = .ok d e1 := by
  unfold isiD at h2 ⊢
  rw [h, bind_ok]
  exact h2
theorem cutS1 {rl rh : Env → Out (Option Int)} {lo hi : Option Int} {s : Str} (h : ra e = .ok (.str s) e1) (hl : rl e1 = .ok lo e2) (hh : rh e2 = .ok hi e3) (h2 : cutF (.str s) lo hi e3 = .ok d e3) : cutA ra rl rh e = .ok d e3 := by
  unfold cutA
  rw [h]
  show sl3 ra rl rh cutF e = _
  unfold sl3
  rw [h, bind_ok, hl, bind_ok, hh, bind_ok]
  exact h2
theorem nO : noO e = .ok none e := rfl
theorem sO {n : Int} (h : ra e = .ok (.int n) e1) : someO ra e = .ok (some n) e1 := by unfold someO; rw [h]; rfl
theorem cutT1 {rl rh : Env → Out (Option Int)} {lo hi : Option Int} {l : List D} (h : ra e = .ok (.tup l) e1) (hl : rl e1 = .ok lo e2) (hh : rh e2 = .ok hi e3) (h2 : cutF (.tup l) lo hi e3 = .ok d e3) : cutA ra rl rh e = .ok d e3 := by
  unfold cutA
  rw [h]
  show sl3 ra rl rh cutF e = _
  unfold sl3
  rw [h, bind_ok, hl, bind_ok, hh, bind_ok]
  exact h2
theorem cutL1 {rl rh : Env → Out (Option Int)} {lo hi : Option Int} {l l' : List D} (h : ra e = .ok (.lst l) e1) (hl : rl e1 = .ok lo e2) (hh : rh e2 = .ok hi e3) (h2 : cutLF (.lst l) lo hi e3 = .ok l' e3) : cutA ra rl rh e = .ok (.lst l') e3 := by
  unfold cutA
  rw [h]
  show heldD (sl3 ra rl rh cutLF) e = _
  unfold heldD sl3
  rw [h, bind_ok, hl, bind_ok, hh, bind_ok, h2]
  rfl
theorem itS1 {s : Str} (h : ra e = .ok (.str s) e1) : itA ra e = .ok (signs s) e1 := by unfold itA itS; rw [h]; rfl
theorem itEA1 {l : List D} (h : ra e = .ok (.lst l) e1) : itEA (consA ra nilA) e = .ok (enL l) e1 := by
  have := consA1 h
  unfold itEA itE; rw [this]; rfl
theorem itEA2 {l : List D} (h : ra e = .ok (.tup l) e1) : itEA (consA ra nilA) e = .ok (enL l) e1 := by
  have := consA1 h
  unfold itEA itET; rw [this]; rfl
theorem itZ1 {l m : List D} (h : rA e = .ok [.tup l, .tup m] e1) : itZA rA e = .ok (zipL l m) e1 := by unfold itZA; rw [h]; rfl
theorem itZ2 {l m : List D} (h : rA e = .ok [.lst l, .lst m] e1) : itZA rA e = .ok (zipL l m) e1 := by unfold itZA; rw [h]; rfl
theorem isF_non (n : Bool) (x : D) : isF n x .non = some (.bl (if n then !isNonF x else isNonF x)) := rfl
end
section
variable {e e1 e2 e3 : Env} {ra rb rc : Env → Out D} {ta tb : Env → Out Bool} {b k : Bool} {d : D}
theorem or3 (h : ta e = .ok b e1) (h2 : (if b = true then .ok true e1 else tb e1) = .ok k e2) : orT ta tb e = .ok k e2 := by unfold orT; rw [h]; exact h2
theorem and3 (h : ta e = .ok b e1) (h2 : (if b = true then tb e1 else .ok false e1) = .ok k e2) : andT ta tb e = .ok k e2 := by unfold andT; rw [h]; exact h2
theorem andD3 (h : ra e = .ok (.bl b) e1) (h2 : (if b = true then rb e1 else .ok (.bl false) e1) = .ok d e2) : andD ra rb e = .ok d e2 := by
  cases b with
  | true => exact andD2 h h2
  | false => exact (andD1 h).trans h2
theorem orD3 (h : ra e = .ok (.bl b) e1) (h2 : (if b = true then .ok (.bl true) e1 else rb e1) = .ok d e2) : orD ra rb e = .ok d e2 := by
  cases b with
  | true => exact (orD1 h).trans h2
  | false => exact orD2 h h2
theorem ifD3 (h : ta e = .ok b e1) (h2 : (if b = true then ra e1 else rb e1) = .ok d e2) : ifD ta ra rb e = .ok d e2 := by unfold ifD; rw [h]; exact h2
theorem ifS3 {r1 r2 : Env → Out Fl} {fl : Fl} (h : ta e = .ok b e1) (h2 : (if b = true then r1 e1 else r2 e1) = .ok fl e2) : ifS ta r1 r2 e = .ok fl e2 := by unfold ifS; rw [h]; exact h2
end
end DL

/-! ==== DM5 -/
/-! DM5: what can be shown by repr -/
namespace DL
open PySem L2
structure Sh (n k : Nat) (d : D) : Prop where
  pu : d.pure = true
  ca : d.toP.canLay0 = true
  de : d.toP.depth ≤ n
  is : d.toP.intsShort 13 = true
  sh : d.toP.showable = true
  we : d.toP.weight ≤ k
theorem Sh.mono {n k n' k' : Nat} {d : D} (h : Sh n k d) (h1 : n ≤ n') (h2 : k ≤ k') : Sh n' k' d := ⟨h.pu, h.ca, Nat.le_trans h.de h1, h.is, h.sh, Nat.le_trans h.we h2⟩
theorem sh_str {s : Str} (h : SOk s) : Sh 0 s.length (.str s) := ⟨rfl, h, Nat.le_refl _, rfl, rfl, Nat.le_refl _⟩
theorem sh_bl {b : Bool} : Sh 0 0 (.bl b) := ⟨rfl, rfl, Nat.le_refl _, rfl, rfl, Nat.le_refl _⟩
theorem sh_non : Sh 0 0 .non := ⟨rfl, rfl, Nat.le_refl _, rfl, rfl, Nat.le_refl _⟩
theorem log2_of {n k : Nat} (h : n < 2 ^ (k + 1)) : n.log2 ≤ k := by
  by_cases h0 : n = 0
  · subst h0; simp
  · exact Nat.lt_succ_iff.mp ((Nat.log2_lt h0).mpr h)
theorem sh_int {i : Int} (h : i.natAbs < 10 ^ 12) : Sh 0 41 (.int i) := by
  have hl : i.natAbs.log2 ≤ 39 := log2_of (Nat.lt_of_lt_of_le h (by decide))
  refine ⟨rfl, rfl, Nat.le_refl _, ?_, ?_, ?_⟩
  · show decide ((PyData.shown (.int i)).length ≤ 13) = true
    exact decide_eq_true (PyData.shown_int_le h)
  · show decide (i.natAbs.log2 < 1920) = true
    exact decide_eq_true (by omega)
  · show (if i == 0 then 0 else i.natAbs.log2 + 1) ≤ 41
    split <;> omega
theorem shL {n k : Nat} : ∀ {l : List D}, (∀ d ∈ l, Sh n k d) → pureL l = true ∧ PyData.canLayAll0 (toPL l) = true ∧ PyData.depthAll (toPL l) ≤ n ∧ PyData.intsShortAll 13 (toPL l) = true ∧ PyData.showableAll (toPL l) = true ∧ PyData.weightAll (toPL l) ≤ (k + 1) * l.length
  | [], _ => ⟨rfl, rfl, Nat.zero_le _, rfl, rfl, Nat.zero_le _⟩
  | d :: l, h => by
    obtain ⟨a1, a2, a3, a4, a5, a6⟩ := shL (l := l) fun x m => h x (List.mem_cons_of_mem _ m)
    have b := h d List.mem_cons_self
    refine ⟨by simp [pureL, b.pu, a1], by simp [toPL, PyData.canLayAll0, b.ca, a2], ?_, by simp [toPL, PyData.intsShortAll, b.is, a4], by simp [toPL, PyData.showableAll, b.sh, a5], ?_⟩
    · simp only [toPL, PyData.depthAll]
      exact Nat.max_le.mpr ⟨b.de, a3⟩
    · simp only [toPL, PyData.weightAll, List.length_cons]
      have := b.we
      rw [Nat.mul_succ]
      omega
theorem sh_tup {n k m : Nat} {l : List D} (h : ∀ d ∈ l, Sh n k d) (hm : l.length ≤ m) : Sh (n + 1) ((k + 1) * m) (.tup l) := by
  obtain ⟨a1, a2, a3, a4, a5, a6⟩ := shL h
  exact ⟨a1, a2, Nat.succ_le_succ a3, a4, a5, Nat.le_trans a6 (Nat.mul_le_mul_left _ hm)⟩
theorem sh_lst {n k m : Nat} {l : List D} (h : ∀ d ∈ l, Sh n k d) (hm : l.length ≤ m) : Sh (n + 1) ((k + 1) * m) (.lst l) := by
  obtain ⟨a1, a2, a3, a4, a5, a6⟩ := shL h
  exact ⟨a1, a2, Nat.succ_le_succ a3, a4, a5, Nat.le_trans a6 (Nat.mul_le_mul_left _ hm)⟩
theorem sh_map {α : Type} {f : α → D} {n k : Nat} {l : List α} (h : ∀ a ∈ l, Sh n k (f a)) : ∀ d ∈ l.map f, Sh n k d := fun d m => by
  obtain ⟨a, ma, rfl⟩ := List.mem_map.mp m
  exact h a ma
theorem sh2 {n k : Nat} {a b : D} (h1 : Sh n k a) (h2 : Sh n k b) : ∀ d ∈ [a, b], Sh n k d := fun d m => by
  simp at m
  rcases m with rfl | rfl
  · exact h1
  · exact h2
theorem sh3 {n k : Nat} {a b c : D} (h1 : Sh n k a) (h2 : Sh n k b) (h3 : Sh n k c) : ∀ d ∈ [a, b, c], Sh n k d := fun d m => by
  simp at m
  rcases m with rfl | rfl | rfl
  · exact h1
  · exact h2
  · exact h3
theorem repr_fits {n k : Nat} {d : D} (h : Sh n k d) (hn : n ≤ 60) (hk : k ≤ 1048576) : (d.pure && d.toP.showable && decide (d.toP.depth ≤ 60) && decide (d.toP.shown.length ≤ sizeLine)) = true := by
  have h1 := PyData.leavesShort_of_canLay0 13 _ h.ca h.is
  have h2 := PyData.shown_fits (by decide : 8 ≤ 13) (by decide) h1 (Nat.le_trans h.we (Nat.le_trans hk (by decide)))
  have h3 := Nat.le_trans h.de hn
  rw [h.pu, h.sh]
  simp [h2, h3]
theorem repr_t {n k : Nat} {l : List D} (h : Sh n k (.tup l)) (hn : n ≤ 60 := by decide) (hk : k ≤ 1048576 := by decide) : reprF (.tup l) = some (.str (D.tup l).toP.shown) := by
  have h1 : okRp (.tup l) = true := by unfold okRp; rw [repr_fits h hn hk]; rfl
  unfold reprF
  rw [if_pos h1]
theorem repr_l {n k : Nat} {l : List D} (h : Sh n k (.lst l)) (hn : n ≤ 60 := by decide) (hk : k ≤ 1048576 := by decide) : reprF (.lst l) = some (.str (D.lst l).toP.shown) := by
  have h1 : okRp (.lst l) = true := by unfold okRp; rw [repr_fits h hn hk]; rfl
  unfold reprF
  rw [if_pos h1]
theorem ne_self (s : Str) : eqF true (.str s) (.str s) = some (.bl false) := by rw [eqF_s]; simp [tst]
theorem eq_self' (s : Str) : eqF false (.str s) (.str s) = some (.bl true) := by rw [eqF_s]; simp [tst]
end DL

/-! ==== GMP_K04 -/
/-! the first family's laws: each of some cells gives a purse, the law holds from each -/
namespace DL.K04
open PySem L2
theorem seqL1 {r1 : Env → Out Fl} {r2 : Env → Out (Option (List D))} {e e1 : Env} {r : Out (Option (List D))} (h : r1 e = .ok .nx e1) (h2 : r2 e1 = r) : seqL r1 r2 e = r := by unfold seqL; rw [h]; exact h2
theorem retL1 {r : Env → Out (List D)} {r2 : Env → Out (Option (List D))} {e e1 : Env} {l : List D} (h : r e = .ok l e1) : thenL (retL r) r2 e = .ok (some l) e1 := by unfold thenL retL; rw [h]; rfl
theorem thenL1 {r1 r2 : Env → Out (Option (List D))} {e e1 : Env} {l : List D} (h : r1 e = .ok (some l) e1) : thenL r1 r2 e = .ok (some l) e1 := by unfold thenL; rw [h]; rfl
theorem thenL0 {r1 r2 : Env → Out (Option (List D))} {e e1 : Env} {r : Out (Option (List D))} (h : r1 e = .ok none e1) (h2 : r2 e1 = r) : thenL r1 r2 e = r := by unfold thenL; rw [h]; exact h2
theorem ifLt {rc : Env → Out Bool} {ra rb : Env → Out (Option (List D))} {e e1 : Env} {r : Out (Option (List D))} (h : rc e = .ok true e1) (h2 : ra e1 = r) : ifL rc ra rb e = r := by unfold ifL; rw [h]; exact h2
theorem ifLf {rc : Env → Out Bool} {ra rb : Env → Out (Option (List D))} {e e1 : Env} {r : Out (Option (List D))} (h : rc e = .ok false e1) (h2 : rb e1 = r) : ifL rc ra rb e = r := by unfold ifL; rw [h]; exact h2
theorem fnL1 {n tot : Nat} {rb : Env → Out (Option (List D))} {svs : List SV} {e : Env} {l : List D} (hl : svs.length = n) (h : rb (svs ++ List.replicate (tot - n) .un) = .ok (some l) e) : fnOfL n tot rb svs = .ok l (backA svs e) := by unfold fnOfL; rw [if_pos hl, h]
theorem cell_ok {ns : List Int} {k : Nat} (hk : k < 8) (hl : ns.length ≤ 63) : ∃ c : Int, bin2 (pur2 ixF) (bin2 (pur2 addF) (cutA (nameD 0) (someO (nameD 1)) (someO (bin2 (pur2 addF) (nameD 1) (constD (.int 1))))) (heldD (lstF (consA (constD (.int 0)) nilA)))) (constD (.int 0)) [.dat (.ro (ns.map .int)), .dat (.int k), .un] = .ok (.int c) [.dat (.ro (ns.map .int)), .dat (.int k), .un] := by
  let ms : List Int := cutL ns (some (k : Int)) (some ((k : Int) + 1))
  have hm : cutL (ns.map D.int) (some (k : Int)) (some ((k : Int) + 1)) = ms.map D.int := by
    show ((ns.map D.int).drop _).take _ = (((ns.drop _).take _)).map D.int
    rw [List.length_map, List.map_take, List.map_drop]
  have c1 : cutA (nameD 0) (someO (nameD 1)) (someO (bin2 (pur2 addF) (nameD 1) (constD (.int 1)))) [.dat (.ro (ns.map .int)), .dat (.int k), .un] = .ok (.lst (ms.map .int)) [.dat (.ro (ns.map .int)), .dat (.int k), .un] := by
    simp [nameD, constD, bin2, un1, pur2, pur1, consA, nilA, tupD, lstF, heldD, callD, one, seqS, ifS, retS, retNS, dropS, asgS, asgOS, parS, parT, andT, orT, notT, valT, blOf, andD, orD, notD, ifD, chainD, fldD, isiD, itA, itT, itS, itL, itEA, itET, itE, itR1, itR2, nextS, neverS, yesT, setD, setCons, setNil, setTup, appS, storeS, ownIx, ownUse, consRd, consRr, nilR, callS, fnCall, methS, mkCall, posA, kwA, consMd, consMf, nilM, newL, setAll, refsB, refsOf, nodupB, svsOf, putBack, ovOf, putOv, lstOf, backA, callFS, fnCallF, callLS, fnCallL, seqL, thenL, retL, ifL, nilL, nilN, seqN, doN, fldN, putFD, cmpF, addF, intF, lenF, tupleF, listF, max2F, min2F, int1F, asB, asI, asS, lrOf, seqOf, negF, kbTy, tyName, noO, someO, cutA, sl3, cutF, cutLF, keepsB, freeE, noEx, SV.isO, SV.isB, OV.toD, finD, yes2]
    exact hm
  have lm : ms.length ≤ 63 := by
    show ((ns.drop _).take _).length ≤ 63
    rw [List.length_take, List.length_drop]
    omega
  have a1 : addF (.lst (ms.map .int)) (.lst [.int 0]) = some (.lst ((ms ++ [0]).map .int)) := by
    have : (ms.map D.int).length + ([.int 0] : List D).length ≤ sizeLine := by
      have : (1000 : Nat) ≤ sizeLine := by decide
      simp only [List.length_map, List.length_singleton]
      omega
    unfold addF
    dsimp only
    rw [if_pos this, List.map_append]
    rfl
  have hp : 0 < (ms ++ [0]).length := by simp
  refine ⟨(ms ++ [0])[0], bin1 (bin1 c1 (held_ok (lst1 (consA1 cn1) (show 1 ≤ sizeLine by decide))) a1) cn1 (ix_lst (k := 0) ?_)⟩
  rw [List.getElem?_map, List.getElem?_eq_getElem hp]
  rfl
theorem purse_ok {ns : List Int} {k : Nat} (hk : k < 8) (hl : ns.length ≤ 63) : ∃ p, PO p ∧ f_law_purse [.dat (.ro (ns.map .int)), .dat (.int k)] = .ok [.int p.1, .int p.2] [.dat (.ro (ns.map .int)), .dat (.int k)] := by
  obtain ⟨c, hc⟩ := cell_ok hk hl
  have pw : powF (.int 10) (.int 18) = some (.int 1000000000000000000) := by
    have : (10 : Int) ^ (18 : Int).toNat = 1000000000000000000 := by decide +kernel
    simp [intF, this]
  have t1 : valT (bin2 (pur2 geF) (nameD 2) (bin2 (pur2 powF) (constD (.int 10)) (constD (.int 18)))) [.dat (.ro (ns.map .int)), .dat (.int k), .dat (.int c)] = .ok (decide ((1000000000000000000 : Int) ≤ c)) [.dat (.ro (ns.map .int)), .dat (.int k), .dat (.int c)] := val1 (bin1 (nm1 rfl) (bin1 cn1 cn1 pw) rfl)
  have t2 : valT (bin2 (pur2 ltF) (nameD 2) (constD (.int 0))) [.dat (.ro (ns.map .int)), .dat (.int k), .dat (.int c)] = .ok (decide (c < 0)) [.dat (.ro (ns.map .int)), .dat (.int k), .dat (.int c)] := val1 (bin1 (nm1 rfl) cn1 rfl)
  have neg : un1 (pur1 negF) (constD (.int 1)) [.dat (.ro (ns.map .int)), .dat (.int k), .dat (.int c)] = .ok (.int (-1)) [.dat (.ro (ns.map .int)), .dat (.int k), .dat (.int c)] := rfl
  have body : ∀ (l : List D), b_law_purse [.dat (.ro (ns.map .int)), .dat (.int k), .un] = .ok (some l) [.dat (.ro (ns.map .int)), .dat (.int k), .dat (.int c)] → f_law_purse [.dat (.ro (ns.map .int)), .dat (.int k)] = .ok l [.dat (.ro (ns.map .int)), .dat (.int k)] := fun l e => by
    exact fnL1 (n := 2) (tot := 3) (rb := b_law_purse) (svs := [.dat (.ro (ns.map .int)), .dat (.int k)]) rfl e
  by_cases hb : (1000000000000000000 : Int) ≤ c ∨ c < 0
  · refine ⟨(if -1 - c > c then -1 - c else c, 0), ⟨by dsimp only; split <;> omega, Int.le_refl _, show (0 : Int) < 2147483648 by decide⟩, body _ ?_⟩
    have tt : orT (valT (bin2 (pur2 geF) (nameD 2) (bin2 (pur2 powF) (constD (.int 10)) (constD (.int 18))))) (valT (bin2 (pur2 ltF) (nameD 2) (constD (.int 0)))) [.dat (.ro (ns.map .int)), .dat (.int k), .dat (.int c)] = .ok true [.dat (.ro (ns.map .int)), .dat (.int k), .dat (.int c)] := by
      by_cases h1 : (1000000000000000000 : Int) ≤ c
      · exact or1 (t1.trans (by simp [h1]))
      · exact or2 (t1.trans (by simp [h1])) (t2.trans (by have : c < 0 := by omega
                                                          simp [this]))
    exact seqL1 (asg1 (e2 := [.dat (.ro (ns.map .int)), .dat (.int k), .dat (.int c)]) hc rfl rfl) (thenL1 (ifLt tt (retL1 (lst1 (consA2 (call1 (consA2 (nm1 rfl) (consA1 (bin1 neg (nm1 rfl) rfl))) rfl) (consA1 cn1)) (show 2 ≤ sizeLine by decide)))))
  · have c0 : 0 ≤ c ∧ c < 1000000000000000000 := by omega
    have h9 : (0 : Int) < 2147483629 := by decide
    have m1 := mul_int (i := c) (j := 48271) (by omega) (by decide)
    have m2 := mul_int (i := (k : Int) + 1) (j := 69621) (by omega) (by decide)
    have m3 := mul_int (i := ((k : Int) + 1) * 69621) (j := (k : Int) + 7) (by omega) (by omega)
    refine ⟨(0, 1 + (c * 48271 + ((k : Int) + 1) * 69621 * ((k : Int) + 7)) % 2147483629), ⟨Int.le_refl _, ?_, ?_⟩, body _ ?_⟩
    · have := Int.emod_nonneg (c * 48271 + ((k : Int) + 1) * 69621 * ((k : Int) + 7)) (show (2147483629 : Int) ≠ 0 by decide)
      dsimp only
      omega
    · have := Int.emod_lt_of_pos (c * 48271 + ((k : Int) + 1) * 69621 * ((k : Int) + 7)) h9
      dsimp only
      omega
    have tt : orT (valT (bin2 (pur2 geF) (nameD 2) (bin2 (pur2 powF) (constD (.int 10)) (constD (.int 18))))) (valT (bin2 (pur2 ltF) (nameD 2) (constD (.int 0)))) [.dat (.ro (ns.map .int)), .dat (.int k), .dat (.int c)] = .ok false [.dat (.ro (ns.map .int)), .dat (.int k), .dat (.int c)] := by
      have h1 : ¬ (1000000000000000000 : Int) ≤ c := by omega
      have h2 : ¬ c < 0 := by omega
      exact or2 (t1.trans (by simp [h1])) (t2.trans (by simp [h2]))
    exact seqL1 (asg1 (e2 := [.dat (.ro (ns.map .int)), .dat (.int k), .dat (.int c)]) hc rfl rfl) (thenL0 (ifLf tt rfl) (retL1 (lst1 (consA2 cn1 (consA1 (bin1 cn1 (bin1 (bin1 (bin1 (nm1 rfl) cn1 m1) (bin1 (bin1 (bin1 (nm1 rfl) cn1 rfl) cn1 m2) (bin1 (nm1 rfl) cn1 rfl) m3) rfl) cn1 (mod_int h9)) rfl))) (show 2 ≤ sizeLine by decide))))
def lawB (M : Int) (right : List SV → Out D) : Env → Out Fl := (seqS (retS (callD (one allF) (consA (heldD (compF [1] (itR1 (consA (callD max2F (consA (constD (.int 2)) (consA (callD min2F (consA (callD (one lenF) (consA (nameD 0) nilA)) (consA (constD (.int M)) nilA))) nilA))) nilA)) (setD 1) yesT (callFS right (newL (callLS f_law_purse (consRd (nameD 0) (consRd (nameD 1) nilR)))) nilR))) nilA)))
  nextS)
theorem turnR_ok {right : List SV → Out D} (hr : ∀ p : Int × Int, PO p → ∃ p', right [.bor (pd p)] = .ok (.bl true) [.bor (pd p')]) {ns : List Int} {k : Nat} (hk : k < 8) (hl : ns.length ≤ 63) : callFS right (newL (callLS f_law_purse (consRd (nameD 0) (consRd (nameD 1) nilR)))) nilR [.dat (.ro (ns.map .int)), .dat (.int k)] = .ok (.bl true) [.dat (.ro (ns.map .int)), .dat (.int k)] := by
  obtain ⟨p, hp, h1⟩ := purse_ok hk hl
  obtain ⟨p', h2⟩ := hr p hp
  have h3 : callLS f_law_purse (consRd (nameD 0) (consRd (nameD 1) nilR)) [.dat (.ro (ns.map .int)), .dat (.int k)] = .ok [.int p.1, .int p.2] [.dat (.ro (ns.map .int)), .dat (.int k)] := by
    simp [nameD, constD, bin2, un1, pur2, pur1, consA, nilA, tupD, lstF, heldD, callD, one, seqS, ifS, retS, retNS, dropS, asgS, asgOS, parS, parT, andT, orT, notT, valT, blOf, andD, orD, notD, ifD, chainD, fldD, isiD, itA, itT, itS, itL, itEA, itET, itE, itR1, itR2, nextS, neverS, yesT, setD, setCons, setNil, setTup, appS, storeS, ownIx, ownUse, consRd, consRr, nilR, callS, fnCall, methS, mkCall, posA, kwA, consMd, consMf, nilM, newL, setAll, refsB, refsOf, nodupB, svsOf, putBack, ovOf, putOv, lstOf, backA, callFS, fnCallF, callLS, fnCallL, seqL, thenL, retL, ifL, nilL, nilN, seqN, doN, fldN, putFD, cmpF, addF, intF, lenF, tupleF, listF, max2F, min2F, int1F, asB, asI, asS, lrOf, seqOf, negF, kbTy, tyName, noO, someO, cutA, sl3, cutF, cutLF, keepsB, freeE, noEx, SV.isO, SV.isB, OV.toD, finD, yes2, h1]
  have h4 : newL (callLS f_law_purse (consRd (nameD 0) (consRd (nameD 1) nilR))) [.dat (.ro (ns.map .int)), .dat (.int k)] = .ok (pd p) [.dat (.ro (ns.map .int)), .dat (.int k)] := by
    unfold newL
    rw [h3]
    rfl
  unfold callFS
  rw [h4]
  simp [nameD, constD, bin2, un1, pur2, pur1, consA, nilA, tupD, lstF, heldD, callD, one, seqS, ifS, retS, retNS, dropS, asgS, asgOS, parS, parT, andT, orT, notT, valT, blOf, andD, orD, notD, ifD, chainD, fldD, isiD, itA, itT, itS, itL, itEA, itET, itE, itR1, itR2, nextS, neverS, yesT, setD, setCons, setNil, setTup, appS, storeS, ownIx, ownUse, consRd, consRr, nilR, callS, fnCall, methS, mkCall, posA, kwA, consMd, consMf, nilM, newL, setAll, refsB, refsOf, nodupB, svsOf, putBack, ovOf, putOv, lstOf, backA, callFS, fnCallF, callLS, fnCallL, seqL, thenL, retL, ifL, nilL, nilN, seqN, doN, fldN, putFD, cmpF, addF, intF, lenF, tupleF, listF, max2F, min2F, int1F, asB, asI, asS, lrOf, seqOf, negF, kbTy, tyName, noO, someO, cutA, sl3, cutF, cutLF, keepsB, freeE, noEx, SV.isO, SV.isB, OV.toD, finD, yes2, h2]
theorem law_of {right : List SV → Out D} (hr : ∀ p : Int × Int, PO p → ∃ p', right [.bor (pd p)] = .ok (.bl true) [.bor (pd p')]) {M : Nat} (hM : M ≤ 8) : ∀ ns : List Int, ns.length ≤ 63 → ∃ e, fnOf 1 2 (lawB M right) [.dat (.ro (ns.map D.int))] = .ok (.bl true) e := fun ns hl => by
  refine ⟨[.dat (.ro (ns.map D.int))], Wp.out (fn_wp ?_)⟩
  unfold lawB
  have ln : lenF (.ro (ns.map .int)) = some (.int ns.length) := by
    show some (D.int ((ns.map D.int).length : Nat)) = _
    rw [List.length_map]
  obtain ⟨n, hn, e1⟩ : ∃ n : Nat, n ≤ 8 ∧ callD max2F (consA (constD (.int 2)) (consA (callD min2F (consA (callD (one lenF) (consA (nameD 0) nilA)) (consA (constD (.int M)) nilA))) nilA)) [.dat (.ro (ns.map .int)), .un] = .ok (.int n) [.dat (.ro (ns.map .int)), .un] := by
    refine ⟨if (if M < ns.length then M else ns.length) > 2 then (if M < ns.length then M else ns.length) else 2, by split <;> (try split) <;> omega, ?_⟩
    refine call1 (consA2 cn1 (consA1 (call1 (consA2 (callo (nm1 rfl) ln) (consA1 cn1)) rfl))) ?_
    simp only [max2F]
    by_cases h8 : M < ns.length
    · have : (M : Int) < ns.length := by omega
      simp only [h8, this, if_true]
      by_cases h2 : 2 < M
      · have : (2 : Int) < M := by omega
        simp [h2, this]
      · have : ¬ (2 : Int) < M := by omega
        simp [h2, this]
    · have h8' : ¬ (M : Int) < ns.length := by omega
      simp only [h8', if_false, h8]
      by_cases h2 : 2 < ns.length
      · have : (2 : Int) < ns.length := by omega
        simp [h2, this]
      · have h2' : ¬ (2 : Int) < ns.length := by omega
        simp [h2, h2']
  have cc : compF [1] (itR1 (consA (callD max2F (consA (constD (.int 2)) (consA (callD min2F (consA (callD (one lenF) (consA (nameD 0) nilA)) (consA (constD (.int M)) nilA))) nilA))) nilA)) (setD 1) yesT (callFS right (newL (callLS f_law_purse (consRd (nameD 0) (consRd (nameD 1) nilR)))) nilR) [.dat (.ro (ns.map .int)), .un] = .ok (((List.range n).filter fun _ => true).map fun _ => .bl true) [.dat (.ro (ns.map .int)), .un] :=
    compF_map (r1_ok e1 (by omega)) rfl (by rw [List.length_range]; exact Nat.le_trans hn (by decide)) rfl fun k m => ⟨[.dat (.ro (ns.map .int)), .dat (.int k)], rfl, rfl, rfl, rfl, fun _ => turnR_ok hr (by have := List.mem_range.mp m; omega) hl⟩
  have al : (((List.range n).filter fun _ => true).all fun _ => true) = true := List.all_eq_true.mpr fun _ _ => rfl
  refine wp_seq (wp_eq (ret1 (callo (held_ok cc) ((allF_map (fun _ => true) _).trans (by rw [al])))) ⟨rfl, rfl⟩)
end DL.K04

/-! ==== GMA_K05 -/
/-! k05: texts of webs, written and read -/
namespace DL
open PySem L2
theorem joinL_len (S : List Nat) : ∀ ps : List (List Nat), (TL.joinL S ps).length ≤ (ps.map (·.length)).sum + ps.length * S.length
  | [] => Nat.zero_le _
  | [p] => by simp [TL.joinL]
  | p :: q :: r => by
    have ih := joinL_len S (q :: r)
    show (p ++ (S ++ TL.joinL S (q :: r))).length ≤ _
    rw [List.length_append, List.length_append]
    simp only [List.map_cons, List.sum_cons, List.length_cons, Nat.add_mul, Nat.one_mul] at ih ⊢
    omega
theorem join_len (y : Str) (ps : List Str) : (Txt.join y ps).length ≤ (ps.map (·.length)).sum + ps.length * y.length := by
  rw [TL.len_tl, TL.join_eq, TL.tl_join]
  have := joinL_len (TL.tl y) (ps.map TL.tl)
  rw [List.map_map, List.length_map] at this
  rw [TL.len_tl y]
  have e : (ps.map ((·.length) ∘ TL.tl)) = ps.map (·.length) := List.map_congr_left fun p _ => (TL.len_tl p).symm
  rw [e] at this
  exact this
theorem joinL_mem {S : List Nat} {c : Nat} : ∀ {ps : List (List Nat)}, c ∈ TL.joinL S ps → c ∈ S ∨ ∃ p ∈ ps, c ∈ p
  | [], h => by cases h
  | [p], h => .inr ⟨p, List.mem_singleton.mpr rfl, h⟩
  | p :: q :: r, h => by
    have h : c ∈ p ++ (S ++ TL.joinL S (q :: r)) := h
    rcases List.mem_append.mp h with h | h
    · exact .inr ⟨p, List.mem_cons_self, h⟩
    · rcases List.mem_append.mp h with h | h
      · exact .inl h
      · rcases joinL_mem h with h | ⟨x, m, h⟩
        · exact .inl h
        · exact .inr ⟨x, List.mem_cons_of_mem _ m, h⟩
theorem join_mem {y : Str} {ps : List Str} {c : Nat} (h : c ∈ (Txt.join y ps).cps.toList) : c ∈ y.cps.toList ∨ ∃ p ∈ ps, c ∈ p.cps.toList := by
  have h : c ∈ TL.tl (Txt.join y ps) := h
  rw [TL.join_eq, TL.tl_join] at h
  rcases joinL_mem h with h | ⟨x, m, h⟩
  · exact .inl h
  · obtain ⟨p, mp, rfl⟩ := List.mem_map.mp m
    exact .inr ⟨p, mp, h⟩
theorem joinF_ok {a : Str} {ys : List Str} (h : (ys.map (·.length)).sum + ys.length * a.length ≤ 16777216) : joinF a (.lst (ys.map .str)) = some (.str (Txt.join a ys)) := by
  unfold joinF
  have e : (seqOf (.lst (ys.map D.str))).bind asS = some ys := K04.asS_map ys
  rw [e]
  simp only [Option.bind_some, h, if_true]
theorem joinD1 {a : Str} {ys : List Str} {rb : Env → Out D} {e e1 : Env} (hb : rb e = .ok (.lst (ys.map .str)) e1) (h : (ys.map (·.length)).sum + ys.length * a.length ≤ 16777216) : joinD (constD (.str a)) rb e = .ok (.str (Txt.join a ys)) e1 := by
  unfold joinD
  rw [cn1, bind_ok]
  dsimp only
  rw [hb, bind_ok]
  unfold pur1
  rw [joinF_ok h]
theorem split1 {a b : Str} {ra : Env → Out D} {e e1 : Env} (ha : ra e = .ok (.str a) e1) (hb : b.length ≠ 0) (hz : a.length + 2 ≤ sizeLine) : splitD ra (constD (.str b)) e = .ok (.lst ((Txt.split a b).map .str)) e1 := by
  unfold splitD
  rw [ha, bind_ok]
  dsimp only
  rw [cn1, bind_ok]
  unfold pur1 splF
  dsimp only
  rw [if_pos (by simp [hb, hz])]
theorem strO1 {cn : Str} {fn : List SV → Out D} {rA : Env → Out (List D)} {e e1 : Env} {ns : List Str} {l : List D} {z : Str} {svs : List SV} (h : rA e = .ok [.obj cn ns l] e1) (h2 : fn [.dat (.obj cn ns l)] = .ok (.str z) svs) : strO cn fn rA e = .ok (.str z) e1 := by
  unfold strO
  rw [h, bind_ok]
  dsimp only
  rw [if_pos rfl, h2]
theorem ownNil1 {n : Bool} {i : Nat} {e : Env} {l : List D} (h : e[i]? = some (.own (.L l))) (ok : okP (.lst l) = true) : ownNil n i e = .ok (.bl (if n then !l.isEmpty else l.isEmpty)) e := by
  unfold ownNil
  rw [h]
  dsimp only
  rw [if_pos ok]
theorem compF_at {α : Type} {f g : α → D} {p : α → Bool} {vs : List Nat} {ri : Env → Out (List D)} {rg : D → Env → Option Env} {rt : Env → Out Bool} {re : Env → Out D} {env e1 : Env} {l : List α}
    (hi : ri env = .ok (l.map f) e1) (fr : freeE e1 vs = true) (hl : l.length ≤ sizeLine) (hb : backE e1 (wipeE e1 vs) vs = e1)
    (h : ∀ a ∈ l, ∃ e2, rg (f a) (wipeE e1 vs) = some e2 ∧ freeE e2 vs = true ∧ wipeE e2 vs = wipeE e1 vs ∧ rt e2 = .ok (p a) e2 ∧ (p a = true → re e2 = .ok (g a) e2)) : compF vs ri rg rt re env = .ok ((l.filter p).map g) e1 := by
  have := compF_map (ri := fun e => .ok (l.map f) e) (env := e1) rfl fr hl hb h
  unfold compF at this ⊢
  rw [hi]
  exact this
theorem ext1' {i : Nat} {ra : Env → Out D} {e e1 e2 : Env} {l0 l m : List D} (h0 : lstOf e[i]? = some l0) (h : ra e = .ok (.lst m) e1) (h2 : lstOf e1[i]? = some l) (hz : l.length + m.length ≤ sizeLine) (h3 : putOv i (.L (l ++ m)) e1 = some e2) : extS i ra e = .ok .nx e2 := by
  unfold extS
  rw [h0]
  dsimp only
  rw [h, bind_ok, h2]
  dsimp only
  rw [if_pos hz, h3]
end DL
namespace DL.K05
open PySem L2 K04
local macro_rules
  | `(tactic| walk_at "ev_leaf") => `(tactic| first | with_reducible assumption | rfl | assumption | decide)
local macro_rules
  | `(tactic| walk_at "ev_if") => `(tactic| first
    | ((refine (if_pos ?_).trans ?_); (rfl); (first | with_reducible rfl | walk_at "evc"))
    | ((refine (if_neg ?_).trans ?_); (decide); (first | with_reducible rfl | walk_at "evc"))
    | ((refine (if_pos ?_).trans ?_); (assumption); (first | with_reducible rfl | walk_at "evc"))
    | ((refine (if_neg ?_).trans ?_); (assumption); (first | with_reducible rfl | walk_at "evc")))
local macro_rules
  | `(tactic| walk_at "evc") => `(tactic| first
    | with_reducible assumption
    | with_reducible exact cn1
    | with_reducible exact nx1
    | with_reducible exact nR
    | with_reducible exact nA
    | with_reducible exact nO
    | with_reducible exact mN
    | ((with_reducible apply nm1); rfl)
    | ((with_reducible apply nmO); rfl)
    | ((with_reducible apply bin1); walk_at "evc"; walk_at "evc"; walk_at "ev_leaf")
    | ((with_reducible apply callo); walk_at "evc"; walk_at "ev_leaf")
    | ((with_reducible apply call1); walk_at "evc"; walk_at "ev_leaf")
    | ((with_reducible apply consA2); walk_at "evc"; walk_at "evc")
    | ((with_reducible apply tup1); walk_at "evc"; walk_at "ev_leaf")
    | ((with_reducible refine held_ok ?_); walk_at "evc")
    | ((with_reducible apply heldO1); walk_at "evc")
    | ((with_reducible apply lst1); walk_at "evc"; walk_at "ev_leaf")
    | ((with_reducible apply fld1); walk_at "evc"; walk_at "ev_leaf")
    | ((with_reducible apply un1'); walk_at "evc"; walk_at "ev_leaf")
    | ((with_reducible apply notD1); walk_at "evc"; rfl)
    | ((with_reducible apply andD3); walk_at "evc"; walk_at "ev_if")
    | ((with_reducible apply orD3); walk_at "evc"; walk_at "ev_if")
    | ((with_reducible apply ifD3); walk_at "evc"; walk_at "ev_if")
    | ((with_reducible apply chain2); walk_at "evc"; walk_at "evc"; walk_at "ev_leaf"; walk_at "evc"; walk_at "ev_leaf")
    | ((with_reducible apply chain1); walk_at "evc"; walk_at "evc"; walk_at "ev_leaf")
    | ((with_reducible apply val1); walk_at "evc")
    | ((with_reducible apply not1); walk_at "evc"; rfl)
    | ((with_reducible apply or3); walk_at "evc"; walk_at "ev_if")
    | ((with_reducible apply and3); walk_at "evc"; walk_at "ev_if")
    | ((with_reducible apply seqSr); (with_reducible apply ret1); walk_at "evc")
    | ((with_reducible apply ret1); walk_at "evc")
    | ((with_reducible apply seqS1); walk_at "evc"; walk_at "evc")
    | ((with_reducible apply seqSr); walk_at "evc")
    | ((with_reducible apply ifS3); walk_at "evc"; walk_at "ev_if")
    | ((with_reducible apply asg1); walk_at "evc"; walk_at "ev_leaf"; rfl)
    | ((with_reducible apply asgO1); walk_at "evc"; rfl; rfl)
    | ((with_reducible apply asgV1); walk_at "evc"; rfl; rfl)
    | ((with_reducible apply app1); rfl; walk_at "evc"; rfl; walk_at "ev_leaf"; rfl)
    | ((with_reducible apply par1); walk_at "evc"; rfl)
    | ((with_reducible apply parT1); walk_at "evc"; walk_at "ev_leaf"; rfl)
    | ((with_reducible apply mD); walk_at "evc"; walk_at "evc")
    | ((with_reducible apply mF); walk_at "evc"; walk_at "evc")
    | ((with_reducible apply newL1); walk_at "evc")
    | ((with_reducible apply drop1); walk_at "evc")
    | ((with_reducible apply listF1); walk_at "evc")
    | ((with_reducible apply listF2); walk_at "evc")
    | ((with_reducible apply cat1); walk_at "evc"; walk_at "evc"; walk_at "ev_leaf")
    | ((with_reducible apply ownIx1); rfl; walk_at "evc"; rfl; walk_at "ev_leaf")
    | ((with_reducible apply callS1); walk_at "evc"; walk_at "evc"; walk_at "evc"; rfl)
    | ((with_reducible apply cRd); walk_at "evc"; walk_at "evc")
    | ((with_reducible apply cRr); rfl; walk_at "evc"; rfl)
    | ((with_reducible apply fnC2); assumption; rfl; rfl)
    | ((with_reducible apply methS1); walk_at "evc"; walk_at "evc"; walk_at "evc"; (decide +kernel); rfl)
    | ((with_reducible apply methK1); walk_at "evc"; walk_at "evc"; walk_at "evc"; walk_at "evc"; (decide +kernel); rfl)
    | ((with_reducible apply cutS1); walk_at "evc"; walk_at "evc"; walk_at "evc"; walk_at "ev_leaf")
    | ((with_reducible apply cutT1); walk_at "evc"; walk_at "evc"; walk_at "evc"; walk_at "ev_leaf")
    | ((with_reducible apply cutL1); walk_at "evc"; walk_at "evc"; walk_at "evc"; walk_at "ev_leaf")
    | ((with_reducible apply sO); walk_at "evc")
    | ((with_reducible apply itT1); walk_at "evc")
    | ((with_reducible apply itL1); walk_at "evc")
    | ((with_reducible apply itS1); walk_at "evc")
    | ((with_reducible apply itEA1); walk_at "evc")
    | ((with_reducible apply itEA2); walk_at "evc")
    | ((with_reducible apply itZ1); walk_at "evc")
    | ((with_reducible apply itZ2); walk_at "evc")
    | assumption
    | rfl)

def spS : Str := (" " : Str)
def gtS : Str := (">" : Str)
def nlS : Str := ("\n" : Str)
def rowW (w : List (Str × Str)) (a : Str) : List Str := if wok w a = [] then [a] else a :: gtS :: wok w a
def rowT (w : List (Str × Str)) (a : Str) : Str := Txt.join spS (rowW w a)
def webT (l : List Str) (w : List (Str × Str)) : Str := Txt.join nlS (l.map (rowT w))
section
variable {l : List Str} {w : List (Str × Str)} {a : Str}
theorem abc_no : ∀ c ∈ abc.cps.toList, c ≠ 32 ∧ c ≠ 10 ∧ c ≠ 62 := by decide +kernel
theorem sp_tl : TL.tl spS = [32] := by decide +kernel
theorem gt_tl : TL.tl gtS = [62] := by decide +kernel
theorem nl_tl : TL.tl nlS = [10] := by decide +kernel
theorem sp_len : spS.length = 1 := by decide +kernel
theorem gt_len : gtS.length = 1 := by decide +kernel
theorem nl_len : nlS.length = 1 := by decide +kernel
theorem wok_sub (hw : Wk l w) : ∀ x ∈ wok w a, x ∈ l := fun x m => (hw.mem _ (mem_wok.mp m)).2
theorem wok_len (h : Bl l) (hw : Wk l w) : (wok w a).length ≤ 12 := Nat.le_trans (List.Nodup.length_le_of_subset ((ri_wok hw.ri a).nodup ordS) fun x m => wok_sub hw x m) h.hi
theorem nm_no (h : Nm a) : 32 ∉ TL.tl a ∧ 10 ∉ TL.tl a := ⟨fun m => (abc_no _ (h.ch _ m)).1 rfl, fun m => (abc_no _ (h.ch _ m)).2.1 rfl⟩
theorem rowW_ch (h : Bl l) (hw : Wk l w) (ha : a ∈ l) : ∀ p ∈ rowW w a, 32 ∉ TL.tl p ∧ 10 ∉ TL.tl p ∧ p.length ≤ 8 := fun p m => by
  have nm : ∀ x ∈ l, 32 ∉ TL.tl x ∧ 10 ∉ TL.tl x ∧ x.length ≤ 8 := fun x m => ⟨(nm_no (h.nm x m)).1, (nm_no (h.nm x m)).2, (h.nm x m).hi⟩
  unfold rowW at m
  split at m
  · simp at m; subst m; exact nm _ ha
  · rcases List.mem_cons.mp m with rfl | m
    · exact nm _ ha
    · rcases List.mem_cons.mp m with rfl | m
      · rw [gt_tl, gt_len]; decide
      · exact nm _ (wok_sub hw p m)
theorem rowW_len (h : Bl l) (hw : Wk l w) : (rowW w a).length ≤ 14 := by
  have := wok_len (a := a) h hw
  unfold rowW
  split
  · simp
  · simp; omega
theorem rowW_ne : rowW w a ≠ [] := by
  unfold rowW
  split <;> simp
theorem sum_le {ps : List Str} {k : Nat} (h : ∀ p ∈ ps, p.length ≤ k) : (ps.map (·.length)).sum ≤ ps.length * k := by
  induction ps with
  | nil => simp
  | cons p ps ih =>
    have h1 := h p List.mem_cons_self
    have h2 := ih fun q m => h q (List.mem_cons_of_mem _ m)
    simp only [List.map_cons, List.sum_cons, List.length_cons, Nat.add_mul, Nat.one_mul]
    omega
theorem rowW_sum (h : Bl l) (hw : Wk l w) (ha : a ∈ l) : ((rowW w a).map (·.length)).sum + (rowW w a).length * spS.length ≤ 126 := by
  have h1 := sum_le (ps := rowW w a) (k := 8) fun p m => (rowW_ch h hw ha p m).2.2
  have h2 := rowW_len (a := a) h hw
  rw [sp_len]
  omega
theorem rowT_len (h : Bl l) (hw : Wk l w) (ha : a ∈ l) : (rowT w a).length ≤ 126 := Nat.le_trans (join_len _ _) (rowW_sum h hw ha)
theorem rowT_nl (h : Bl l) (hw : Wk l w) (ha : a ∈ l) : 10 ∉ TL.tl (rowT w a) := fun m => by
  rcases join_mem m with m | ⟨p, mp, m⟩
  · have m : 10 ∈ TL.tl spS := m
    rw [sp_tl] at m; exact absurd m (by decide)
  · exact (rowW_ch h hw ha p mp).2.1 m
theorem rows_sum (h : Bl l) (hw : Wk l w) : ((l.map (rowT w)).map (·.length)).sum + (l.map (rowT w)).length * nlS.length ≤ 1600 := by
  have h1 := sum_le (ps := l.map (rowT w)) (k := 126) fun p m => by
    obtain ⟨x, mx, rfl⟩ := List.mem_map.mp m
    exact rowT_len h hw mx
  have h2 := h.hi
  rw [List.length_map] at h1 ⊢
  rw [nl_len]
  omega
theorem webT_len (h : Bl l) (hw : Wk l w) : (webT l w).length ≤ 1600 := Nat.le_trans (join_len _ _) (rows_sum h hw)
theorem split_row (h : Bl l) (hw : Wk l w) (ha : a ∈ l) : Txt.split (rowT w a) spS = rowW w a := TL.split_join sp_tl (by decide +kernel) rowW_ne fun p m => (rowW_ch h hw ha p m).1
theorem split_web (h : Bl l) (hw : Wk l w) : Txt.split (webT l w) nlS = l.map (rowT w) := TL.split_join nl_tl (by decide +kernel) (fun z => by have := h.lo; rw [List.map_eq_nil_iff.mp z] at this; simp at this) fun p m => by
  obtain ⟨x, mx, rfl⟩ := List.mem_map.mp m
  exact rowT_nl h hw mx
/-- a row, written: a new list of words joined -/
theorem big {ys : List Str} {s : Str} {k : Nat} (h : (ys.map (·.length)).sum + ys.length * s.length ≤ k) (hk : k ≤ 16777216) : (ys.map (·.length)).sum + ys.length * s.length ≤ 16777216 := Nat.le_trans h hk
theorem l1000 : (1000 : Nat) ≤ sizeLine := by decide
theorem addLs {a b : List Str} (h : a.length + b.length ≤ 1000) : addF (.lst (a.map .str)) (.lst (b.map .str)) = some (.lst ((a ++ b).map .str)) := by
  rw [List.map_append]
  refine if_pos ?_
  rw [List.length_map, List.length_map]
  have := l1000; omega
theorem str_ok (h : Bl l) (hw : Wk l w) : f_Web_str [.dat (webD l w)] = .ok (.str (webT l w)) [.dat (webD l w)] := by
  refine Wp.out (fn_wp ?_)
  unfold b_Web_str
  refine wp_seq (wp_eq (a := .nx) (e := [.dat (webD l w), .own (.L []), fr none, fr none]) (asgO1 (lst1 nA (Nat.zero_le _)) rfl rfl) ?_)
  refine wp_seq (wp_for (fun i e => ∃ o2 o3, e = [.dat (webD l w), .own (.L (((l.take i).map (rowT w)).map .str)), fr o2, fr o3]) _ _ (itT1 (fld1 (nm1 rfl) (fld_bells _ _))) ⟨none, none, rfl⟩ ?_ ?_)
  · rintro i d e hd ⟨o2, o3, rfl⟩
    rw [List.getElem?_map] at hd
    obtain ⟨a, hx, rfl⟩ := Option.map_eq_some_iff.mp hd
    have ha := List.mem_of_getElem? hx
    have hi : i < l.length := (List.getElem?_eq_some_iff.mp hx).1
    have tk : l.take (i + 1) = l.take i ++ [a] := by rw [List.take_add_one, hx]; rfl
    have cw := woken_ok h hw ha
    have wl := wok_len (a := a) h hw
    refine ⟨[.dat (webD l w), .own (.L (((l.take i).map (rowT w)).map .str)), .dat (.str a), fr o3], setD_fr (o := o2) rfl, by cases o2 <;> cases o3 <;> rfl, ?_⟩
    refine wp_seq (wp_eq (a := .nx) (e := [.dat (webD l w), .own (.L (((l.take i).map (rowT w)).map .str)), .dat (.str a), .dat (.tup ((wok w a).map .str))]) (asg1 (meth1 c_woken (nm1 rfl) (nm1 rfl) cw) (setD_fr (o := o3) rfl) (by cases o3 <;> rfl)) ?_)
    have e1 : eqF true (.tup ((wok w a).map .str)) (.tup []) = some (.bl (tst true (decide (wok w a = [])))) := eqF_tS true (m := []) (fun x m => h.sok x (wok_sub hw x m)) fun x m => by simp at m
    have c1 : valT (bin2 (pur2 (eqF true)) (nameD 3) (tupD nilA)) [.dat (webD l w), .own (.L (((l.take i).map (rowT w)).map .str)), .dat (.str a), .dat (.tup ((wok w a).map .str))] = .ok (tst true (decide (wok w a = []))) [.dat (webD l w), .own (.L (((l.take i).map (rowT w)).map .str)), .dat (.str a), .dat (.tup ((wok w a).map .str))] := val1 (bin1 (nm1 rfl) (tup1 nA (Nat.zero_le _)) e1)
    have c2 : ifD (valT (bin2 (pur2 (eqF true)) (nameD 3) (tupD nilA))) (joinD (constD (.str (" " : Str))) (bin2 (pur2 addF) (heldD (lstF (consA (nameD 2) (consA (constD (.str (">" : Str))) nilA)))) (heldD (listF (consA (nameD 3) nilA))))) (nameD 2) [.dat (webD l w), .own (.L (((l.take i).map (rowT w)).map .str)), .dat (.str a), .dat (.tup ((wok w a).map .str))] = .ok (.str (rowT w a)) [.dat (webD l w), .own (.L (((l.take i).map (rowT w)).map .str)), .dat (.str a), .dat (.tup ((wok w a).map .str))] := by
      by_cases hn : wok w a = []
      · rw [show tst true (decide (wok w a = [])) = false by simp [tst, hn]] at c1
        refine (ifDf c1 (nm1 rfl)).trans ?_
        have : rowT w a = a := by
          unfold rowT rowW
          rw [if_pos hn, TL.join_eq]
          rfl
        rw [this]
      · rw [show tst true (decide (wok w a = [])) = true by simp [tst, hn]] at c1
        have rw_ : rowW w a = [a, gtS] ++ wok w a := by unfold rowW; rw [if_neg hn]; rfl
        have hs := rowW_sum h hw ha
        unfold rowT
        rw [rw_] at hs ⊢
        exact ifDt c1 (joinD1 (bin1 (x := .lst ([a, gtS].map .str)) (held_ok (lst1 (consA2 (nm1 rfl) (consA2 cn1 nA)) (show 2 ≤ sizeLine by decide))) (held_ok (listF2 (consA2 (nm1 rfl) nA))) (addLs (by simp; omega))) (big hs (by decide)))
    have hz : (((l.take i).map (rowT w)).map D.str).length < sizeLine := by
      rw [List.length_map, List.length_map, List.length_take]
      have := h.hi; have := l1000; omega
    refine wp_seq (wp_eq (a := .nx) (e := [.dat (webD l w), .own (.L (((l.take (i + 1)).map (rowT w)).map .str)), .dat (.str a), .dat (.tup ((wok w a).map .str))]) (app1 rfl c2 rfl hz (by rw [tk, List.map_append, List.map_append]; rfl)) (wp_nx.mpr ⟨rfl, some _, some _, rfl⟩))
  · rintro e' ⟨o2, o3, rfl⟩
    rw [List.length_map, List.take_length]
    have k1 : nameD 1 [.dat (webD l w), .own (.L ((l.map (rowT w)).map .str)), fr o2, fr o3] = .ok (.lst ((l.map (rowT w)).map .str)) [.dat (webD l w), .dat (.lst ((l.map (rowT w)).map .str)), fr o2, fr o3] := nmO (o := .L ((l.map (rowT w)).map .str)) rfl
    exact wp_seq (wp_eq (ret1 (joinD1 k1 (big (rows_sum h hw) (by decide)))) ⟨rfl, rfl⟩)
theorem text_ok (h : Bl l) (hw : Wk l w) : f_law_text [.dat (.lst (l.map .str)), .dat (.lst (w.map dP))] = .ok (.str (webT l w)) [.dat (.lst (l.map .str)), .dat (.lst (w.map dP))] := by
  have hwl : w.length ≤ sizeLine := by have := hw.len; have := l1000; omega
  refine Wp.out (fn_wp ?_)
  unfold b_law_text
  refine wp_seq (wp_eq (a := .nx) (e := [.dat (.lst (l.map .str)), .dat (.lst (w.map dP)), .own (.L []), fr none, fr none, .un]) (asgO1 (lst1 nA (Nat.zero_le _)) rfl rfl) ?_)
  refine wp_seq (wp_for (fun i e => ∃ o2 o3, e = [.dat (.lst (l.map .str)), .dat (.lst (w.map dP)), .own (.L (((l.take i).map (rowT w)).map .str)), fr o2, fr o3, .un]) _ _ (itL1 (nm1 rfl)) ⟨none, none, rfl⟩ ?_ ?_)
  · rintro i d e hd ⟨o2, o3, rfl⟩
    rw [List.getElem?_map] at hd
    obtain ⟨a, hx, rfl⟩ := Option.map_eq_some_iff.mp hd
    have ha := List.mem_of_getElem? hx
    have hi : i < l.length := (List.getElem?_eq_some_iff.mp hx).1
    have tk : l.take (i + 1) = l.take i ++ [a] := by rw [List.take_add_one, hx]; rfl
    have wl := wok_len (a := a) h hw
    refine ⟨[.dat (.lst (l.map .str)), .dat (.lst (w.map dP)), .own (.L (((l.take i).map (rowT w)).map .str)), .dat (.str a), fr o3, .un], setD_fr (o := o2) rfl, by cases o2 <;> cases o3 <;> rfl, ?_⟩
    have cc : compF [5] (itA (nameD 1)) (setD 5) (valT (bin2 (pur2 (eqF false)) (bin2 (pur2 ixF) (nameD 5) (constD (.int 0))) (nameD 3))) (bin2 (pur2 ixF) (nameD 5) (constD (.int 1))) [.dat (.lst (l.map .str)), .dat (.lst (w.map dP)), .own (.L (((l.take i).map (rowT w)).map .str)), .dat (.str a), fr o3, .un] = .ok ((w.filter fun p => decide (p.1 = a)).map fun p => .str p.2) [.dat (.lst (l.map .str)), .dat (.lst (w.map dP)), .own (.L (((l.take i).map (rowT w)).map .str)), .dat (.str a), fr o3, .un] :=
      compF_map (f := dP) (itL1 (nm1 rfl)) rfl hwl rfl fun p m => ⟨[.dat (.lst (l.map .str)), .dat (.lst (w.map dP)), .own (.L (((l.take i).map (rowT w)).map .str)), .dat (.str a), fr o3, .dat (dP p)], rfl, rfl, rfl, val1 (bin1 (bin1 (nm1 rfl) cn1 (ix_tup (k := 0) rfl)) (nm1 rfl) (eqF_s false _ _)), fun _ => bin1 (nm1 rfl) cn1 (ix_tup (k := 1) rfl)⟩
    have ce : ((w.filter fun p => decide (p.1 = a)).map fun p => D.str p.2) = (wok w a).map .str := by
      unfold wok
      rw [List.map_map]
      rfl
    rw [ce] at cc
    refine wp_seq (wp_eq (a := .nx) (e := [.dat (.lst (l.map .str)), .dat (.lst (w.map dP)), .own (.L (((l.take i).map (rowT w)).map .str)), .dat (.str a), .dat (.lst ((wok w a).map .str)), .un]) (asg1 (held_ok cc) (setD_fr (o := o3) rfl) (by cases o3 <;> rfl)) ?_)
    have e1 : eqF true (.lst ((wok w a).map .str)) (.lst []) = some (.bl (tst true (decide (wok w a = [])))) := eqF_lS true (m := []) (fun x m => h.sok x (wok_sub hw x m)) fun x m => by simp at m
    have c2 : joinD (constD (.str (" " : Str))) (bin2 (pur2 addF) (bin2 (pur2 addF) (heldD (lstF (consA (nameD 3) nilA))) (bin2 (pur2 mulA) (heldD (lstF (consA (constD (.str (">" : Str))) nilA))) (callD (one int1F) (consA (bin2 (pur2 (eqF true)) (nameD 4) (heldD (lstF nilA))) nilA)))) (nameD 4)) [.dat (.lst (l.map .str)), .dat (.lst (w.map dP)), .own (.L (((l.take i).map (rowT w)).map .str)), .dat (.str a), .dat (.lst ((wok w a).map .str)), .un] = .ok (.str (rowT w a)) [.dat (.lst (l.map .str)), .dat (.lst (w.map dP)), .own (.L (((l.take i).map (rowT w)).map .str)), .dat (.str a), .dat (.lst ((wok w a).map .str)), .un] := by
      have hs := rowW_sum h hw ha
      unfold rowT
      by_cases hn : wok w a = []
      · rw [show tst true (decide (wok w a = [])) = false by simp [tst, hn]] at e1
        have rw_ : rowW w a = ([a] ++ []) ++ wok w a := by unfold rowW; rw [if_pos hn, hn]; rfl
        rw [rw_] at hs ⊢
        exact joinD1 (bin1 (bin1 (x := .lst ([a].map .str)) (held_ok (lst1 (consA2 (nm1 rfl) nA) (show 1 ≤ sizeLine by decide))) (bin1 (d := .lst (([] : List Str).map .str)) (held_ok (lst1 (consA2 cn1 nA) (show 1 ≤ sizeLine by decide))) (callo (bin1 (nm1 rfl) (held_ok (lst1 nA (Nat.zero_le _))) e1) rfl) rfl) (addLs (by simp))) (nm1 rfl) (addLs (by simp; omega))) (big hs (by decide))
      · rw [show tst true (decide (wok w a = [])) = true by simp [tst, hn]] at e1
        have rw_ : rowW w a = ([a] ++ [gtS]) ++ wok w a := by unfold rowW; rw [if_neg hn]; rfl
        rw [rw_] at hs ⊢
        exact joinD1 (bin1 (bin1 (x := .lst ([a].map .str)) (held_ok (lst1 (consA2 (nm1 rfl) nA) (show 1 ≤ sizeLine by decide))) (bin1 (d := .lst ([gtS].map .str)) (held_ok (lst1 (consA2 cn1 nA) (show 1 ≤ sizeLine by decide))) (callo (bin1 (nm1 rfl) (held_ok (lst1 nA (Nat.zero_le _))) e1) rfl) rfl) (addLs (by simp))) (nm1 rfl) (addLs (by simp; omega))) (big hs (by decide))
    have hz : (((l.take i).map (rowT w)).map D.str).length < sizeLine := by
      rw [List.length_map, List.length_map, List.length_take]
      have := h.hi; have := l1000; omega
    refine wp_seq (wp_eq (a := .nx) (e := [.dat (.lst (l.map .str)), .dat (.lst (w.map dP)), .own (.L (((l.take (i + 1)).map (rowT w)).map .str)), .dat (.str a), .dat (.lst ((wok w a).map .str)), .un]) (app1 rfl c2 rfl hz (by rw [tk, List.map_append, List.map_append]; rfl)) (wp_nx.mpr ⟨rfl, some _, some _, rfl⟩))
  · rintro e' ⟨o2, o3, rfl⟩
    rw [List.length_map, List.take_length]
    have k1 : nameD 2 [.dat (.lst (l.map .str)), .dat (.lst (w.map dP)), .own (.L ((l.map (rowT w)).map .str)), fr o2, fr o3, .un] = .ok (.lst ((l.map (rowT w)).map .str)) [.dat (.lst (l.map .str)), .dat (.lst (w.map dP)), .dat (.lst ((l.map (rowT w)).map .str)), fr o2, fr o3, .un] := nmO (o := .L ((l.map (rowT w)).map .str)) rfl
    exact wp_seq (wp_eq (ret1 (joinD1 k1 (big (rows_sum h hw) (by decide)))) ⟨rfl, rfl⟩)
end
end DL.K05

/-! ==== GMB_K05 -/
/-! k05: rows and webs read -/
namespace DL.K05
open PySem L2 K04
local macro_rules
  | `(tactic| walk_at "ev_leaf") => `(tactic| first | with_reducible assumption | rfl | assumption | decide)
local macro_rules
  | `(tactic| walk_at "ev_if") => `(tactic| first
    | ((refine (if_pos ?_).trans ?_); (rfl); (first | with_reducible rfl | walk_at "evc"))
    | ((refine (if_neg ?_).trans ?_); (decide); (first | with_reducible rfl | walk_at "evc"))
    | ((refine (if_pos ?_).trans ?_); (assumption); (first | with_reducible rfl | walk_at "evc"))
    | ((refine (if_neg ?_).trans ?_); (assumption); (first | with_reducible rfl | walk_at "evc")))
local macro_rules
  | `(tactic| walk_at "evc") => `(tactic| first
    | with_reducible assumption
    | with_reducible exact cn1
    | with_reducible exact nx1
    | with_reducible exact nR
    | with_reducible exact nA
    | with_reducible exact nO
    | with_reducible exact mN
    | ((with_reducible apply nm1); rfl)
    | ((with_reducible apply nmO); rfl)
    | ((with_reducible apply bin1); walk_at "evc"; walk_at "evc"; walk_at "ev_leaf")
    | ((with_reducible apply callo); walk_at "evc"; walk_at "ev_leaf")
    | ((with_reducible apply call1); walk_at "evc"; walk_at "ev_leaf")
    | ((with_reducible apply consA2); walk_at "evc"; walk_at "evc")
    | ((with_reducible apply tup1); walk_at "evc"; walk_at "ev_leaf")
    | ((with_reducible refine held_ok ?_); walk_at "evc")
    | ((with_reducible apply heldO1); walk_at "evc")
    | ((with_reducible apply lst1); walk_at "evc"; walk_at "ev_leaf")
    | ((with_reducible apply fld1); walk_at "evc"; walk_at "ev_leaf")
    | ((with_reducible apply un1'); walk_at "evc"; walk_at "ev_leaf")
    | ((with_reducible apply notD1); walk_at "evc"; rfl)
    | ((with_reducible apply andD3); walk_at "evc"; walk_at "ev_if")
    | ((with_reducible apply orD3); walk_at "evc"; walk_at "ev_if")
    | ((with_reducible apply ifD3); walk_at "evc"; walk_at "ev_if")
    | ((with_reducible apply chain2); walk_at "evc"; walk_at "evc"; walk_at "ev_leaf"; walk_at "evc"; walk_at "ev_leaf")
    | ((with_reducible apply chain1); walk_at "evc"; walk_at "evc"; walk_at "ev_leaf")
    | ((with_reducible apply val1); walk_at "evc")
    | ((with_reducible apply not1); walk_at "evc"; rfl)
    | ((with_reducible apply or3); walk_at "evc"; walk_at "ev_if")
    | ((with_reducible apply and3); walk_at "evc"; walk_at "ev_if")
    | ((with_reducible apply seqSr); (with_reducible apply ret1); walk_at "evc")
    | ((with_reducible apply ret1); walk_at "evc")
    | ((with_reducible apply seqS1); walk_at "evc"; walk_at "evc")
    | ((with_reducible apply seqSr); walk_at "evc")
    | ((with_reducible apply ifS3); walk_at "evc"; walk_at "ev_if")
    | ((with_reducible apply asg1); walk_at "evc"; walk_at "ev_leaf"; rfl)
    | ((with_reducible apply asgO1); walk_at "evc"; rfl; rfl)
    | ((with_reducible apply asgV1); walk_at "evc"; rfl; rfl)
    | ((with_reducible apply app1); rfl; walk_at "evc"; rfl; walk_at "ev_leaf"; rfl)
    | ((with_reducible apply par1); walk_at "evc"; rfl)
    | ((with_reducible apply parT1); walk_at "evc"; walk_at "ev_leaf"; rfl)
    | ((with_reducible apply mD); walk_at "evc"; walk_at "evc")
    | ((with_reducible apply mF); walk_at "evc"; walk_at "evc")
    | ((with_reducible apply newL1); walk_at "evc")
    | ((with_reducible apply drop1); walk_at "evc")
    | ((with_reducible apply listF1); walk_at "evc")
    | ((with_reducible apply listF2); walk_at "evc")
    | ((with_reducible apply cat1); walk_at "evc"; walk_at "evc"; walk_at "ev_leaf")
    | ((with_reducible apply ownIx1); rfl; walk_at "evc"; rfl; walk_at "ev_leaf")
    | ((with_reducible apply callS1); walk_at "evc"; walk_at "evc"; walk_at "evc"; rfl)
    | ((with_reducible apply cRd); walk_at "evc"; walk_at "evc")
    | ((with_reducible apply cRr); rfl; walk_at "evc"; rfl)
    | ((with_reducible apply fnC2); assumption; rfl; rfl)
    | ((with_reducible apply methS1); walk_at "evc"; walk_at "evc"; walk_at "evc"; (decide +kernel); rfl)
    | ((with_reducible apply methK1); walk_at "evc"; walk_at "evc"; walk_at "evc"; walk_at "evc"; (decide +kernel); rfl)
    | ((with_reducible apply cutS1); walk_at "evc"; walk_at "evc"; walk_at "evc"; walk_at "ev_leaf")
    | ((with_reducible apply cutT1); walk_at "evc"; walk_at "evc"; walk_at "evc"; walk_at "ev_leaf")
    | ((with_reducible apply cutL1); walk_at "evc"; walk_at "evc"; walk_at "evc"; walk_at "ev_leaf")
    | ((with_reducible apply sO); walk_at "evc")
    | ((with_reducible apply itT1); walk_at "evc")
    | ((with_reducible apply itL1); walk_at "evc")
    | ((with_reducible apply itS1); walk_at "evc")
    | ((with_reducible apply itEA1); walk_at "evc")
    | ((with_reducible apply itEA2); walk_at "evc")
    | ((with_reducible apply itZ1); walk_at "evc")
    | ((with_reducible apply itZ2); walk_at "evc")
    | assumption
    | rfl)

section
variable {l : List Str} {w : List (Str × Str)} {a : Str}
theorem rise_ok {m : List Str} {e : Env} (hr : Ri ltS m) (hl : m.length ≤ 400) (h3 : e[3]? = some (.dat (.lst (m.map .str)))) (h5 : e[5]? = some .un) : compF [5] (itR1 (consA (bin2 (pur2 subF) (callD (one lenF) (consA (nameD 3) nilA)) (constD (.int 1))) nilA)) (setD 5) yesT (bin2 (pur2 ltF) (bin2 (pur2 ixA) (nameD 3) (nameD 5)) (bin2 (pur2 ixF) (nameD 3) (bin2 (pur2 addF) (nameD 5) (constD (.int 1))))) e = .ok (((List.range ((m.length : Int) - 1).toNat).filter fun _ => true).map fun x => .bl true) e := by
  have s5 : e.set 5 .un = e := by
    obtain ⟨h1, h2⟩ := List.getElem?_eq_some_iff.mp h5
    rw [← h2]; exact List.set_getElem_self h1
  have h5l : 5 < e.length := (List.getElem?_eq_some_iff.mp h5).1
  have wp5 : wipeE e [5] = e := s5
  have := l1000
  have r1 : itR1 (consA (bin2 (pur2 subF) (callD (one lenF) (consA (nameD 3) nilA)) (constD (.int 1))) nilA) e = .ok ((List.range ((m.length : Int) - 1).toNat).map fun (k : Nat) => .int (k : Int)) e := by
    have h0 : bin2 (pur2 subF) (callD (one lenF) (consA (nameD 3) nilA)) (constD (.int 1)) e = .ok (.int ((m.length : Int) - 1)) e := bin1 (callo (nm1 h3) (len_lm _ _)) cn1 rfl
    unfold itR1
    rw [consA1 h0, bind_ok]
    have o : okR ((m.length : Int) - 1) = true := decide_eq_true (by omega)
    simp only [o, if_true, rgL, Int.zero_add]
  refine compF_map (f := fun (k : Nat) => .int (k : Int)) r1 ?_ (by rw [List.length_range]; omega) ?_ fun k mk => ⟨e.set 5 (.dat (.int k)), ?_, ?_, ?_, rfl, fun _ => ?_⟩
  · show (([5] : List Nat).all _) = true
    simp [h5, SV.isO]
  · rw [wp5]
    show e.set 5 (e.getD 5 .un) = e
    rw [List.getD_eq_getElem?_getD, h5]
    exact s5
  · rw [wp5]; unfold setD; rw [h5]
  · show (([5] : List Nat).all _) = true
    simp [h5l, SV.isO]
  · rw [wp5]
    show (e.set 5 _).set 5 .un = e
    rw [List.set_set]; exact s5
  · have hk : k + 1 < m.length := by have := List.mem_range.mp mk; omega
    rw [wp5] at *
    have g3 : (e.set 5 (.dat (.int k)))[3]? = some (.dat (.lst (m.map .str))) := by rw [List.getElem?_set_ne (by decide)]; exact h3
    have g5 : (e.set 5 (.dat (.int (k : Int))))[5]? = some (.dat (.int (k : Int))) := by rw [List.getElem?_set_self h5l]
    have x1 : ixA (.lst (m.map .str)) (.int (k : Int)) = some (.str m[k]) := ix_lst (by rw [List.getElem?_map, List.getElem?_eq_getElem (by omega)]; rfl)
    have x2 : ixF (.lst (m.map .str)) (.int ((k : Int) + 1)) = some (.str m[k + 1]) := ix_lst (k := k + 1) (by rw [List.getElem?_map, List.getElem?_eq_getElem hk]; rfl)
    have lt : ltS m[k] m[k + 1] = true := Ri.step hr (List.getElem?_eq_getElem (by omega)) (List.getElem?_eq_getElem hk)
    exact bin1 (bin1 (nm1 g3) (nm1 g5) x1) (bin1 (nm1 g3) (bin1 (nm1 g5) cn1 rfl) x2) (by show some (D.bl (ltS _ _)) = _; rw [lt])
theorem row_ok (h : Bl l) (hw : Wk l w) (ha : a ∈ l) : f_read_row [.dat (.str (rowT w a))] = .ok (.tup [.str a, .lst ((wok w a).map .str)]) [.dat (.str (rowT w a))] := by
  have sp := split_row h hw ha
  have rl := rowT_len h hw ha
  have wl := wok_len (a := a) h hw
  have wn : ∀ x ∈ a :: wok w a, Nm x := fun x m => (List.mem_cons.mp m).elim (fun e => e ▸ h.nm a ha) fun m => h.nm x (wok_sub hw x m)
  have l1 := l1000
  refine Wp.out (fn_wp ?_)
  unfold b_read_row
  refine wp_seq (wp_eq (a := .nx) (e := [.dat (.str (rowT w a)), .dat (.lst ((rowW w a).map .str)), .un, .un, .un, .un]) (asg1 ((DL.split1 (b := spS) (nm1 rfl) (by rw [sp_len]; decide) (by omega)).trans (by rw [sp])) rfl rfl) ?_)
  have i0 : ixF (.lst ((rowW w a).map .str)) (.int 0) = some (.str a) := ix_lst (k := 0) (by unfold rowW; split <;> rfl)
  have d2 : cutL (rowW w a) (some (2 : Int)) none = wok w a := by
    have e : (rowW w a).drop 2 = wok w a := by
      unfold rowW
      split
      · rename_i e; rw [e]; rfl
      · rfl
    unfold cutL
    rw [HT.sIx_none, show (some (2 : Int)) = some ((2 : Nat) : Int) from rfl, HT.sIx_nat]
    by_cases h2 : 2 ≤ (rowW w a).length
    · rw [Nat.min_eq_left h2, e, List.take_of_length_le]
      rw [← e, List.length_drop]; exact Nat.le_refl _
    · have h3 : (rowW w a).length ≤ 2 := by omega
      rw [Nat.min_eq_right h3, List.drop_length, ← e, List.drop_eq_nil_of_le h3]
      simp
  have c3 : cutA (nameD 1) (someO (constD (.int 2))) noO [.dat (.str (rowT w a)), .dat (.lst ((rowW w a).map .str)), .un, .un, .un, .un] = .ok (.lst ((wok w a).map .str)) [.dat (.str (rowT w a)), .dat (.lst ((rowW w a).map .str)), .un, .un, .un, .un] := by
    refine cutL1 (nm1 rfl) (sO cn1) nO ?_
    show Out.ok (cutL ((rowW w a).map D.str) (some 2) none) _ = _
    have : cutL ((rowW w a).map D.str) (some 2) none = (cutL (rowW w a) (some 2) none).map .str := by
      unfold cutL
      rw [List.length_map, List.map_take, List.map_drop]
    rw [this, d2]
  refine wp_seq (wp_eq (a := .nx) (e := [.dat (.str (rowT w a)), .dat (.lst ((rowW w a).map .str)), .dat (.str a), .dat (.lst ((wok w a).map .str)), .un, .un]) (parT1 (mD (bin1 (nm1 rfl) cn1 i0) (mD c3 mN)) (show 2 ≤ sizeLine by decide) rfl) ?_)
  have cond : andT (valT (bin2 (pur2 gtF) (callD (one lenF) (consA (nameD 1) nilA)) (constD (.int 1)))) (orT (valT (bin2 (pur2 (eqF true)) (bin2 (pur2 ixF) (nameD 1) (constD (.int 1))) (constD (.str (">" : Str))))) (valT (bin2 (pur2 (eqF false)) (nameD 3) (heldD (lstF nilA))))) [.dat (.str (rowT w a)), .dat (.lst ((rowW w a).map .str)), .dat (.str a), .dat (.lst ((wok w a).map .str)), .un, .un] = .ok false [.dat (.str (rowT w a)), .dat (.lst ((rowW w a).map .str)), .dat (.str a), .dat (.lst ((wok w a).map .str)), .un, .un] := by
    by_cases hn : wok w a = []
    · have e : (rowW w a).length = 1 := by unfold rowW; rw [if_pos hn]; rfl
      have g : gtF (.int ((rowW w a).length : Int)) (.int 1) = some (.bl false) := by rw [e]; rfl
      exact and3 (val1 (bin1 (callo (nm1 rfl) (len_lm _ _)) cn1 g)) rfl
    · have hp : 0 < (wok w a).length := List.length_pos_iff.mpr hn
      have e : (rowW w a).length = (wok w a).length + 2 := by unfold rowW; rw [if_neg hn]; rfl
      have g : gtF (.int ((rowW w a).length : Int)) (.int 1) = some (.bl true) := by rw [e]; exact congrArg (fun b => some (D.bl b)) (decide_eq_true (by omega))
      have i1 : ixF (.lst ((rowW w a).map .str)) (.int 1) = some (.str gtS) := ix_lst (k := 1) (by unfold rowW; rw [if_neg hn]; rfl)
      have e1 : eqF false (.lst ((wok w a).map .str)) (.lst []) = some (.bl false) := (eqF_lS false (m := []) (fun x m => h.sok x (wok_sub hw x m)) fun x m => by simp at m).trans (by simp [tst, hn])
      exact and3 (val1 (bin1 (callo (nm1 rfl) (len_lm _ _)) cn1 g)) (or2 (val1 (bin1 (bin1 (nm1 rfl) cn1 i1) cn1 (ne_self gtS))) (val1 (bin1 (nm1 rfl) (held_ok (lst1 nA (Nat.zero_le _))) e1)))
  refine wp_seq (wp_eq (a := .nx) (ifSf cond nx1) ?_)
  have cn : compF [4] (itA (bin2 (pur2 addF) (heldD (lstF (consA (nameD 2) nilA))) (nameD 3))) (setD 4) yesT (callS (fnCall K04.f_is_name) (posA []) (consRd (nameD 4) nilR) nilR) [.dat (.str (rowT w a)), .dat (.lst ((rowW w a).map .str)), .dat (.str a), .dat (.lst ((wok w a).map .str)), .un, .un] = .ok ((([a] ++ wok w a).filter fun _ => true).map fun _ => .bl true) [.dat (.str (rowT w a)), .dat (.lst ((rowW w a).map .str)), .dat (.str a), .dat (.lst ((wok w a).map .str)), .un, .un] :=
    compF_map (f := D.str) (itL1 (bin1 (x := .lst ([a].map .str)) (held_ok (lst1 (consA2 (nm1 rfl) nA) (show 1 ≤ sizeLine by decide))) (nm1 rfl) (addLs (by simp; omega)))) rfl (by rw [List.length_append]; simp; omega) rfl fun x m => ⟨[.dat (.str (rowT w a)), .dat (.lst ((rowW w a).map .str)), .dat (.str a), .dat (.lst ((wok w a).map .str)), .dat (.str x), .un], rfl, rfl, rfl, rfl, fun _ => callS1 (cRd (nm1 rfl) nR) nR (fnC2 (is_name_ok (wn x m)) rfl rfl)⟩
  have an : allF (.lst ((([a] ++ wok w a).filter fun _ => true).map fun _ => .bl true)) = some (.bl true) := (allF_map (fun _ => true) _).trans (by rw [List.all_eq_true.mpr fun _ _ => rfl])
  refine wp_seq (wp_eq (a := .nx) (e := [.dat (.str (rowT w a)), .dat (.lst ((rowW w a).map .str)), .dat (.str a), .dat (.lst ((wok w a).map .str)), .un, .un]) (ifSf (not1 (val1 (callo (held_ok cn) an))) nx1) ?_)
  have cr := rise_ok (e := [.dat (.str (rowT w a)), .dat (.lst ((rowW w a).map .str)), .dat (.str a), .dat (.lst ((wok w a).map .str)), .un, .un]) (ri_wok hw.ri a) (by omega) rfl rfl
  have ar : allF (.lst (((List.range (((wok w a).length : Int) - 1).toNat).filter fun _ => true).map fun _ => .bl true)) = some (.bl true) := (allF_map (fun _ => true) _).trans (by rw [List.all_eq_true.mpr fun _ _ => rfl])
  refine wp_seq (wp_eq (a := .nx) (e := [.dat (.str (rowT w a)), .dat (.lst ((rowW w a).map .str)), .dat (.str a), .dat (.lst ((wok w a).map .str)), .un, .un]) (ifSf (not1 (val1 (callo (held_ok cr) ar))) nx1) ?_)
  exact wp_seq (wp_eq (ret1 (tup1 (consA2 (nm1 rfl) (consA2 (nm1 rfl) nA)) (show 2 ≤ sizeLine by decide))) ⟨rfl, rfl⟩)
/-- the wakes of some bells, in turn -/
def wkOf (w : List (Str × Str)) (l : List Str) : List (Str × Str) := l.flatMap fun a => (wok w a).map fun x => (a, x)
theorem wkOf_mem {p : Str × Str} : p ∈ wkOf w l ↔ p.1 ∈ l ∧ p ∈ w := by
  unfold wkOf
  simp only [List.mem_flatMap, List.mem_map]
  constructor
  · rintro ⟨a, ma, x, mx, rfl⟩
    exact ⟨ma, mem_wok.mp mx⟩
  · rintro ⟨m1, m2⟩
    exact ⟨p.1, m1, p.2, mem_wok.mpr m2, rfl⟩
theorem wkOf_ri (hw : Ri ltP w) : ∀ {l : List Str}, Ri ltS l → Ri ltP (wkOf w l)
  | [], _ => List.Pairwise.nil
  | a :: l, h => by
    obtain ⟨h1, h2⟩ := List.pairwise_cons.mp h
    show Ri ltP ((wok w a).map (fun x => (a, x)) ++ wkOf w l)
    refine List.pairwise_append.mpr ⟨?_, wkOf_ri hw h2, fun p m q mq => ?_⟩
    · rw [List.pairwise_map]
      exact (ri_wok hw a).imp fun k => by simp [ltP, k]
    · obtain ⟨x, _, rfl⟩ := List.mem_map.mp m
      have := h1 q.1 (wkOf_mem.mp mq).1
      simp [ltP, this]
theorem wkOf_eq (h : Bl l) (hw : Wk l w) : wkOf w l = w := (wkOf_ri hw.ri h.ri).eq ordP hw.ri fun p => by
  rw [wkOf_mem]
  exact ⟨fun k => k.2, fun k => ⟨(hw.mem p k).1, k⟩⟩
theorem wkOf_snoc (w : List (Str × Str)) (l : List Str) (a : Str) : wkOf w (l ++ [a]) = wkOf w l ++ (wok w a).map fun x => (a, x) := by
  unfold wkOf
  rw [List.flatMap_append]
  simp
theorem wkOf_len (h : Bl l) (hw : Wk l w) (i : Nat) : (wkOf w (l.take i)).length ≤ 144 := by
  have e : wkOf w l = wkOf w (l.take i) ++ wkOf w (l.drop i) := by
    unfold wkOf
    rw [← List.flatMap_append, List.take_append_drop]
  have h1 := hw.len
  rw [← wkOf_eq h hw, e, List.length_append] at h1
  omega
theorem atI_last {l : List D} {x : D} : atI (l ++ [x]) (-1) = some x := by
  have e : ixN (l ++ [x]).length (-1) = some l.length := by
    unfold ixN
    rw [if_neg (by decide), if_pos (by simp; omega)]
    congr 1
    simp
    omega
  unfold atI
  rw [e]
  show (l ++ [x])[l.length]? = _
  simp
theorem ownInX {n b : Bool} {i : Nat} {ra : Env → Out D} {e e1 : Env} {d : D} {l : List D} (h : ra e = .ok d e1) (h2 : lstOf e1[i]? = some l) (h3 : inO n d l = some b) : ownIn n i ra e = .ok (.bl b) e1 := by
  unfold ownIn
  rw [h, bind_ok, h2]
  dsimp only
  rw [h3]
theorem isiS {ko : Str → Option Bool} {s : Str} {ra : Env → Out D} {e e1 : Env} (h : ra e = .ok (.str s) e1) : isiD (kbTy "str") ko ra e = .ok (.bl true) e1 := by unfold isiD; rw [h]; rfl
theorem web_ok (h : Bl l) (hw : Wk l w) : f_read_web [.dat (.str (webT l w))] = .ok (webD l w) [.dat (.str (webT l w))] := by
  have sp := split_web h hw
  have tl := webT_len h hw
  have l1 := l1000
  have k2000 : (2000 : Nat) ≤ sizeLine := by decide
  have sz2 : (webT l w).length + 2 ≤ sizeLine := by omega
  have l12 := h.hi
  refine Wp.out (fn_wp ?_)
  unfold b_read_web
  refine wp_seq (wp_eq (a := .nx) (e := [.dat (.str (webT l w)), .un, .un, .un, .un, .un, .un, .un, .un]) (ifSf (not1 (val1 (isiS (nm1 rfl)))) nx1) ?_)
  refine wp_seq (wp_eq (a := .nx) (e := [.dat (.str (webT l w)), .own (.L []), .own (.L []), .un, .un, .un, .un, .un, .un]) (parT1 (mF (newL1 (lst1 nA (Nat.zero_le _))) (mF (newL1 (lst1 nA (Nat.zero_le _))) mN)) (show 2 ≤ sizeLine by decide) rfl) ?_)
  refine wp_seq (wp_eq (a := .nx) (e := [.dat (.str (webT l w)), .own (.L []), .own (.L []), .dat (.lst ((l.map (rowT w)).map .str)), fr none, fr none, fr none, .un, .un]) (asg1 ((DL.split1 (b := nlS) (nm1 rfl) (by rw [nl_len]; decide) sz2).trans (by rw [sp])) rfl rfl) ?_)
  refine wp_seq (wp_for (fun i e => ∃ o4 o5 o6, e = [.dat (.str (webT l w)), .own (.L ((l.take i).map .str)), .own (.L ((wkOf w (l.take i)).map dP)), .dat (.lst ((l.map (rowT w)).map .str)), fr o4, fr o5, fr o6, .un, .un]) _ _ (itEA1 (nm1 rfl)) ⟨none, none, none, rfl⟩ ?_ ?_)
  · rintro i d e hd ⟨o4, o5, o6, rfl⟩
    obtain ⟨x, hx, rfl⟩ := enL_at hd
    rw [List.getElem?_map, List.getElem?_map] at hx
    obtain ⟨t, ht, rfl⟩ := Option.map_eq_some_iff.mp hx
    obtain ⟨a, hla, rfl⟩ := Option.map_eq_some_iff.mp ht
    have ha := List.mem_of_getElem? hla
    have hi : i < l.length := (List.getElem?_eq_some_iff.mp hla).1
    have tk : l.take (i + 1) = l.take i ++ [a] := by rw [List.take_add_one, hla]; rfl
    have cr := row_ok h hw ha
    refine ⟨[.dat (.str (webT l w)), .own (.L ((l.take i).map .str)), .own (.L ((wkOf w (l.take i)).map dP)), .dat (.lst ((l.map (rowT w)).map .str)), .dat (.int i), .dat (.str (rowT w a)), fr o6, .un, .un], tg2 (by decide) rfl rfl, by cases o4 <;> cases o5 <;> cases o6 <;> rfl, ?_⟩
    refine wp_seq (wp_eq (a := .nx) (e := [.dat (.str (webT l w)), .own (.L ((l.take i).map .str)), .own (.L ((wkOf w (l.take i)).map dP)), .dat (.lst ((l.map (rowT w)).map .str)), .dat (.int i), .dat (.str (rowT w a)), .dat (.tup [.str a, .lst ((wok w a).map .str)]), .un, .un]) (asg1 (callS1 (cRd (nm1 rfl) nR) nR (fnC2 cr rfl rfl)) (setD_fr (o := o6) rfl) (by cases o6 <;> rfl)) ?_)
    have g12 : geF (.int (i : Int)) (.int 12) = some (.bl false) := congrArg (fun b => some (D.bl b)) (decide_eq_false (by omega))
    have okl : okP (.lst ((l.take i).map .str)) = true := (ok_lS fun x m => h.sok x (List.mem_of_mem_take m)).okP
    have on : valT (ownNil true 1) [.dat (.str (webT l w)), .own (.L ((l.take i).map .str)), .own (.L ((wkOf w (l.take i)).map dP)), .dat (.lst ((l.map (rowT w)).map .str)), .dat (.int i), .dat (.str (rowT w a)), .dat (.tup [.str a, .lst ((wok w a).map .str)]), .un, .un] = .ok (!((l.take i).map D.str).isEmpty) [.dat (.str (webT l w)), .own (.L ((l.take i).map .str)), .own (.L ((wkOf w (l.take i)).map dP)), .dat (.lst ((l.map (rowT w)).map .str)), .dat (.int i), .dat (.str (rowT w a)), .dat (.tup [.str a, .lst ((wok w a).map .str)]), .un, .un] := val1 (ownNil1 rfl okl)
    have cond : orT (valT (bin2 (pur2 (isF false)) (nameD 6) (constD .non))) (orT (valT (bin2 (pur2 geF) (nameD 4) (constD (.int 12)))) (andT (valT (ownNil true 1)) (valT (bin2 (pur2 leA) (bin2 (pur2 ixF) (nameD 6) (constD (.int 0))) (ownIx 1 (un1 (pur1 negF) (constD (.int 1)))))))) [.dat (.str (webT l w)), .own (.L ((l.take i).map .str)), .own (.L ((wkOf w (l.take i)).map dP)), .dat (.lst ((l.map (rowT w)).map .str)), .dat (.int i), .dat (.str (rowT w a)), .dat (.tup [.str a, .lst ((wok w a).map .str)]), .un, .un] = .ok false [.dat (.str (webT l w)), .own (.L ((l.take i).map .str)), .own (.L ((wkOf w (l.take i)).map dP)), .dat (.lst ((l.map (rowT w)).map .str)), .dat (.int i), .dat (.str (rowT w a)), .dat (.tup [.str a, .lst ((wok w a).map .str)]), .un, .un] := by
      refine or2 (val1 (bin1 (nm1 rfl) cn1 rfl)) (or2 (val1 (bin1 (nm1 rfl) cn1 g12)) (and3 on ?_))
      cases i with
      | zero => rfl
      | succ j =>
        have hj : j < l.length := by omega
        have hb : l[j]? = some l[j] := List.getElem?_eq_getElem hj
        have tj : (l.take (j + 1)).map D.str = (l.take j).map D.str ++ [.str l[j]] := by
          rw [List.take_add_one, hb, List.map_append]; rfl
        have ne : (!((l.take (j + 1)).map D.str).isEmpty) = true := by rw [tj]; simp
        rw [ne, if_pos rfl]
        have lt : ltS l[j] a = true := Ri.step h.ri hb hla
        have le : leA (.str a) (.str l[j]) = some (.bl false) := (leA_str a l[j]).trans (by rw [lt]; rfl)
        exact val1 (bin1 (bin1 (nm1 rfl) cn1 (ix_tup (k := 0) rfl)) (ownIx1 (n := -1) rfl (un1' cn1 rfl) rfl (by rw [tj]; exact atI_last)) le)
    refine wp_seq (wp_eq (a := .nx) (ifSf cond nx1) ?_)
    have hz : ((l.take i).map D.str).length < sizeLine := by rw [List.length_map, List.length_take]; omega
    refine wp_seq (wp_eq (a := .nx) (e := [.dat (.str (webT l w)), .own (.L ((l.take (i + 1)).map .str)), .own (.L ((wkOf w (l.take i)).map dP)), .dat (.lst ((l.map (rowT w)).map .str)), .dat (.int i), .dat (.str (rowT w a)), .dat (.tup [.str a, .lst ((wok w a).map .str)]), .un, .un]) (app1 rfl (bin1 (nm1 rfl) cn1 (ix_tup (k := 0) rfl)) rfl hz (by rw [tk, List.map_append]; rfl)) ?_)
    have wl := wok_len (a := a) h hw
    have cc : compF [7] (itA (bin2 (pur2 ixF) (nameD 6) (constD (.int 1)))) (setD 7) yesT (tupD (consA (bin2 (pur2 ixF) (nameD 6) (constD (.int 0))) (consA (nameD 7) nilA))) [.dat (.str (webT l w)), .own (.L ((l.take (i + 1)).map .str)), .own (.L ((wkOf w (l.take i)).map dP)), .dat (.lst ((l.map (rowT w)).map .str)), .dat (.int i), .dat (.str (rowT w a)), .dat (.tup [.str a, .lst ((wok w a).map .str)]), .un, .un] = .ok (((wok w a).filter fun _ => true).map fun x => dP (a, x)) [.dat (.str (webT l w)), .own (.L ((l.take (i + 1)).map .str)), .own (.L ((wkOf w (l.take i)).map dP)), .dat (.lst ((l.map (rowT w)).map .str)), .dat (.int i), .dat (.str (rowT w a)), .dat (.tup [.str a, .lst ((wok w a).map .str)]), .un, .un] :=
      compF_map (f := D.str) (itL1 (bin1 (nm1 rfl) cn1 (ix_tup (k := 1) rfl))) rfl (by omega) rfl fun x m => ⟨[.dat (.str (webT l w)), .own (.L ((l.take (i + 1)).map .str)), .own (.L ((wkOf w (l.take i)).map dP)), .dat (.lst ((l.map (rowT w)).map .str)), .dat (.int i), .dat (.str (rowT w a)), .dat (.tup [.str a, .lst ((wok w a).map .str)]), .dat (.str x), .un], rfl, rfl, rfl, rfl, fun _ => tup1 (consA2 (bin1 (nm1 rfl) cn1 (ix_tup (k := 0) rfl)) (consA2 (nm1 rfl) nA)) (show 2 ≤ sizeLine by decide)⟩
    rw [List.filter_eq_self.mpr fun _ _ => rfl] at cc
    have wke : (wkOf w (l.take (i + 1))).map dP = (wkOf w (l.take i)).map dP ++ (wok w a).map fun x => dP (a, x) := by
      rw [tk, wkOf_snoc, List.map_append, List.map_map]
      rfl
    have zz : ((wkOf w (l.take i)).map dP).length + ((wok w a).map fun x => dP (a, x)).length ≤ sizeLine := by
      rw [List.length_map, List.length_map]
      have := wkOf_len h hw i
      omega
    refine wp_seq (wp_eq (a := .nx) (e := [.dat (.str (webT l w)), .own (.L ((l.take (i + 1)).map .str)), .own (.L ((wkOf w (l.take (i + 1))).map dP)), .dat (.lst ((l.map (rowT w)).map .str)), .dat (.int i), .dat (.str (rowT w a)), .dat (.tup [.str a, .lst ((wok w a).map .str)]), .un, .un]) (ext1' rfl (held_ok cc) rfl zz (by rw [wke]; rfl)) (wp_nx.mpr ⟨rfl, some _, some _, some _, rfl⟩))
  · rintro e' ⟨o4, o5, o6, rfl⟩
    rw [enL_len, List.length_map, List.length_map, List.take_length, wkOf_eq h hw]
    have hwl : w.length ≤ sizeLine := by have := hw.len; omega
    have k2 : nameD 2 [.dat (.str (webT l w)), .own (.L (l.map .str)), .own (.L (w.map dP)), .dat (.lst ((l.map (rowT w)).map .str)), fr o4, fr o5, fr o6, .un, .un] = .ok (.lst (w.map dP)) [.dat (.str (webT l w)), .own (.L (l.map .str)), .dat (.lst (w.map dP)), .dat (.lst ((l.map (rowT w)).map .str)), fr o4, fr o5, fr o6, .un, .un] := nmO (o := .L (w.map dP)) rfl
    have cc : compF [8, 7] (itA (nameD 2)) (setTup 2 (setCons (setD 8) (setCons (setD 7) setNil))) yesT (ownIn false 1 (nameD 7)) [.dat (.str (webT l w)), .own (.L (l.map .str)), .own (.L (w.map dP)), .dat (.lst ((l.map (rowT w)).map .str)), fr o4, fr o5, fr o6, .un, .un] = .ok ((w.filter fun _ => true).map fun p => .bl true) [.dat (.str (webT l w)), .own (.L (l.map .str)), .dat (.lst (w.map dP)), .dat (.lst ((l.map (rowT w)).map .str)), fr o4, fr o5, fr o6, .un, .un] := by
      refine compF_at (f := dP) (itL1 k2) rfl hwl rfl fun p m => ⟨[.dat (.str (webT l w)), .own (.L (l.map .str)), .dat (.lst (w.map dP)), .dat (.lst ((l.map (rowT w)).map .str)), fr o4, fr o5, fr o6, .dat (.str p.2), .dat (.str p.1)], rfl, rfl, rfl, rfl, fun _ => ?_⟩
      have io : inO false (.str p.2) (l.map D.str) = some true := by
        have := flat_S l
        simp only [inO, flatD, asV_S, flatV, this, inV_S, Bool.true_and, Bool.and_true, if_true]
        simp [(hw.mem p m).2]
      exact ownInX (nm1 (d := .str p.2) rfl) rfl io
    have al : allF (.lst ((w.filter fun _ => true).map fun p => .bl true)) = some (.bl true) := (allF_map (fun _ => true) _).trans (by rw [List.all_eq_true.mpr fun _ _ => rfl])
    refine wp_seq (wp_eq (a := .nx) (e := [.dat (.str (webT l w)), .own (.L (l.map .str)), .dat (.lst (w.map dP)), .dat (.lst ((l.map (rowT w)).map .str)), fr o4, fr o5, fr o6, .un, .un]) (ifSf (not1 (val1 (callo (held_ok cc) al))) nx1) ?_)
    have k1 : nameD 1 [.dat (.str (webT l w)), .own (.L (l.map .str)), .dat (.lst (w.map dP)), .dat (.lst ((l.map (rowT w)).map .str)), fr o4, fr o5, fr o6, .un, .un] = .ok (.lst (l.map .str)) [.dat (.str (webT l w)), .dat (.lst (l.map .str)), .dat (.lst (w.map dP)), .dat (.lst ((l.map (rowT w)).map .str)), fr o4, fr o5, fr o6, .un, .un] := nmO (o := .L (l.map .str)) rfl
    have ci := init_ok h hw
    have mk : ∀ {its : List It} {e e2 : Env} {fs : List (Str × D)} {svs : List SV}, f_Web_init (svsOf e its) = .ok fs svs → nodupB (refsOf its) = true → putBack its svs e = e2 → mkCall ("Web" : Str) f_Web_init its e = .ok (.obj ("Web" : Str) (fs.map (·.1)) (fs.map (·.2))) e2 := fun h hn he => by
      unfold mkCall
      rw [if_pos hn, h, ← he]
    exact wp_seq (wp_eq (ret1 (callS1 (cRd (tuple1 k1) nR) (cRd (tuple1 (nm1 rfl)) nR) (mk ci rfl rfl))) ⟨rfl, rfl⟩)
end
end DL.K05

/-! ==== GM_K05 -/
/-! k05: the law -/
namespace DL.K05
open PySem L2 K04
local macro_rules
  | `(tactic| walk_at "ev_leaf") => `(tactic| first | with_reducible assumption | rfl | assumption | decide)
local macro_rules
  | `(tactic| walk_at "ev_if") => `(tactic| first
    | ((refine (if_pos ?_).trans ?_); (rfl); (first | with_reducible rfl | walk_at "evc"))
    | ((refine (if_neg ?_).trans ?_); (decide); (first | with_reducible rfl | walk_at "evc"))
    | ((refine (if_pos ?_).trans ?_); (assumption); (first | with_reducible rfl | walk_at "evc"))
    | ((refine (if_neg ?_).trans ?_); (assumption); (first | with_reducible rfl | walk_at "evc")))
local macro_rules
  | `(tactic| walk_at "evc") => `(tactic| first
    | with_reducible assumption
    | with_reducible exact cn1
    | with_reducible exact nx1
    | with_reducible exact nR
    | with_reducible exact nA
    | with_reducible exact nO
    | with_reducible exact mN
    | ((with_reducible apply nm1); rfl)
    | ((with_reducible apply nmO); rfl)
    | ((with_reducible apply bin1); walk_at "evc"; walk_at "evc"; walk_at "ev_leaf")
    | ((with_reducible apply callo); walk_at "evc"; walk_at "ev_leaf")
    | ((with_reducible apply call1); walk_at "evc"; walk_at "ev_leaf")
    | ((with_reducible apply consA2); walk_at "evc"; walk_at "evc")
    | ((with_reducible apply tup1); walk_at "evc"; walk_at "ev_leaf")
    | ((with_reducible refine held_ok ?_); walk_at "evc")
    | ((with_reducible apply heldO1); walk_at "evc")
    | ((with_reducible apply lst1); walk_at "evc"; walk_at "ev_leaf")
    | ((with_reducible apply fld1); walk_at "evc"; walk_at "ev_leaf")
    | ((with_reducible apply un1'); walk_at "evc"; walk_at "ev_leaf")
    | ((with_reducible apply notD1); walk_at "evc"; rfl)
    | ((with_reducible apply andD3); walk_at "evc"; walk_at "ev_if")
    | ((with_reducible apply orD3); walk_at "evc"; walk_at "ev_if")
    | ((with_reducible apply ifD3); walk_at "evc"; walk_at "ev_if")
    | ((with_reducible apply chain2); walk_at "evc"; walk_at "evc"; walk_at "ev_leaf"; walk_at "evc"; walk_at "ev_leaf")
    | ((with_reducible apply chain1); walk_at "evc"; walk_at "evc"; walk_at "ev_leaf")
    | ((with_reducible apply val1); walk_at "evc")
    | ((with_reducible apply not1); walk_at "evc"; rfl)
    | ((with_reducible apply or3); walk_at "evc"; walk_at "ev_if")
    | ((with_reducible apply and3); walk_at "evc"; walk_at "ev_if")
    | ((with_reducible apply seqSr); (with_reducible apply ret1); walk_at "evc")
    | ((with_reducible apply ret1); walk_at "evc")
    | ((with_reducible apply seqS1); walk_at "evc"; walk_at "evc")
    | ((with_reducible apply seqSr); walk_at "evc")
    | ((with_reducible apply ifS3); walk_at "evc"; walk_at "ev_if")
    | ((with_reducible apply asg1); walk_at "evc"; walk_at "ev_leaf"; rfl)
    | ((with_reducible apply asgO1); walk_at "evc"; rfl; rfl)
    | ((with_reducible apply asgV1); walk_at "evc"; rfl; rfl)
    | ((with_reducible apply app1); rfl; walk_at "evc"; rfl; walk_at "ev_leaf"; rfl)
    | ((with_reducible apply par1); walk_at "evc"; rfl)
    | ((with_reducible apply parT1); walk_at "evc"; walk_at "ev_leaf"; rfl)
    | ((with_reducible apply mD); walk_at "evc"; walk_at "evc")
    | ((with_reducible apply mF); walk_at "evc"; walk_at "evc")
    | ((with_reducible apply newL1); walk_at "evc")
    | ((with_reducible apply drop1); walk_at "evc")
    | ((with_reducible apply listF1); walk_at "evc")
    | ((with_reducible apply listF2); walk_at "evc")
    | ((with_reducible apply cat1); walk_at "evc"; walk_at "evc"; walk_at "ev_leaf")
    | ((with_reducible apply ownIx1); rfl; walk_at "evc"; rfl; walk_at "ev_leaf")
    | ((with_reducible apply callS1); walk_at "evc"; walk_at "evc"; walk_at "evc"; rfl)
    | ((with_reducible apply cRd); walk_at "evc"; walk_at "evc")
    | ((with_reducible apply cRr); rfl; walk_at "evc"; rfl)
    | ((with_reducible apply fnC2); assumption; rfl; rfl)
    | ((with_reducible apply methS1); walk_at "evc"; walk_at "evc"; walk_at "evc"; (decide +kernel); rfl)
    | ((with_reducible apply methK1); walk_at "evc"; walk_at "evc"; walk_at "evc"; walk_at "evc"; (decide +kernel); rfl)
    | ((with_reducible apply cutS1); walk_at "evc"; walk_at "evc"; walk_at "evc"; walk_at "ev_leaf")
    | ((with_reducible apply cutT1); walk_at "evc"; walk_at "evc"; walk_at "evc"; walk_at "ev_leaf")
    | ((with_reducible apply cutL1); walk_at "evc"; walk_at "evc"; walk_at "evc"; walk_at "ev_leaf")
    | ((with_reducible apply sO); walk_at "evc")
    | ((with_reducible apply itT1); walk_at "evc")
    | ((with_reducible apply itL1); walk_at "evc")
    | ((with_reducible apply itS1); walk_at "evc")
    | ((with_reducible apply itEA1); walk_at "evc")
    | ((with_reducible apply itEA2); walk_at "evc")
    | ((with_reducible apply itZ1); walk_at "evc")
    | ((with_reducible apply itZ2); walk_at "evc")
    | assumption
    | rfl)

theorem sh_names {l : List Str} (h : Bl l) : Sh 1 108 (.tup (l.map .str)) := sh_tup (sh_map fun s m => (sh_str (h.nm s m).ok).mono (Nat.le_refl _) (h.nm s m).hi) (by rw [List.length_map]; exact h.hi)
theorem sh_pair {l : List Str} (h : Bl l) {p : Str × Str} (h1 : p.1 ∈ l) (h2 : p.2 ∈ l) : Sh 1 18 (dP p) := sh_tup (m := 2) (sh2 ((sh_str (h.nm _ h1).ok).mono (Nat.le_refl _) (h.nm _ h1).hi) ((sh_str (h.nm _ h2).ok).mono (Nat.le_refl _) (h.nm _ h2).hi)) (Nat.le_refl 2)
theorem sh_wakes {l : List Str} {w : List (Str × Str)} (h : Bl l) (hw : Wk l w) : Sh 2 2736 (.tup (w.map dP)) := sh_tup (sh_map fun p m => sh_pair h (hw.mem p m).1 (hw.mem p m).2) (by rw [List.length_map]; exact hw.len)
theorem isiW {l : List Str} {w : List (Str × Str)} {ra : Env → Out D} {e e1 : Env} (h : ra e = .ok (webD l w) e1) : isiD (fun _ => none) (fun n => if n = ("Web" : Str) then some true else none) ra e = .ok (.bl true) e1 := by
  unfold isiD
  rw [h]
  rfl
theorem cut_last {α : Type} (l : List α) (x : α) : cutL (l ++ [x]) (some (-1)) none = [x] := by
  have e1 : HT.sIx (l ++ [x]).length 0 (some (-1)) = l.length := by
    show (if (-1 : Int) < 0 then ((-1 : Int) + ((l ++ [x]).length : Int)).toNat else min (-1 : Int).toNat (l ++ [x]).length) = _
    rw [if_pos (by decide)]
    simp
    omega
  unfold cutL
  rw [HT.sIx_none, e1]
  simp
theorem read_ok {l : List Str} {w : List (Str × Str)} (h : Bl l) (hw : Wk l w) : f_law_read_right [.dat (.lst (l.map .str)), .dat (.lst (w.map dP))] = .ok (.bl true) [.dat (.lst (l.map .str)), .dat (.lst (w.map dP))] := by
  have ct := text_ok h hw
  have cs := str_ok h hw
  have cr := web_ok h hw
  have rp : reprF (.tup [.tup (l.map .str), .tup (w.map dP)]) = some (.str (PyData.shown (D.tup [.tup (l.map .str), .tup (w.map dP)]).toP)) := repr_t (sh_tup (m := 2) (sh2 ((sh_names h).mono (by decide) (by decide : 108 ≤ 2736)) (sh_wakes h hw)) (Nat.le_refl 2))
  generalize PyData.shown (D.tup [.tup (l.map .str), .tup (w.map dP)]).toP = z at rp
  generalize webT l w = t at ct cs cr
  refine Wp.out (fn_wp ?_)
  unfold b_law_read_right
  refine wp_seq (wp_eq (a := .nx) (e := [.dat (.lst (l.map .str)), .dat (.lst (w.map dP)), .dat (.str t), .dat (webD l w), fr none]) (par1 (mD (callS1 (cRd (nm1 rfl) (cRd (nm1 rfl) nR)) nR (fnC2 ct rfl rfl)) (mD (callD2 (nm1 rfl) (nm1 rfl) (webf_ok h hw)) mN)) rfl) ?_)
  refine wp_seq (wp_for (fun i e => ∃ o, e = [.dat (.lst (l.map .str)), .dat (.lst (w.map dP)), .dat (.str t), .dat (webD l w), fr o]) (List.replicate 4 (webD l w)) _ (itL1 (held_ok (lst1 (consA2 (callS1 (cRd (nm1 rfl) nR) nR (fnC2 cr rfl rfl)) (consA2 (callS1 nR (cRd (nm1 rfl) nR) (fnC2 cr rfl rfl)) (consA2 (callS1 (cRd (strO1 (consA2 (nm1 rfl) nA) cs) nR) nR (fnC2 cr rfl rfl)) (consA2 (callS1 (cRd (nm1 rfl) nR) nR (fnC2 cr rfl rfl)) nA)))) (show 4 ≤ sizeLine by decide)))) ⟨none, rfl⟩ ?_ ?_)
  · rintro i d e hd ⟨o, rfl⟩
    obtain rfl := List.eq_of_mem_replicate (List.mem_of_getElem? hd)
    refine ⟨[.dat (.lst (l.map .str)), .dat (.lst (w.map dP)), .dat (.str t), .dat (webD l w), .dat (webD l w)], setD_fr (o := o) rfl, by cases o <;> rfl, ?_⟩
    refine wp_seq (wp_eq (a := .nx) (e := [.dat (.lst (l.map .str)), .dat (.lst (w.map dP)), .dat (.str t), .dat (webD l w), .dat (webD l w)]) (ifSf (or2 (not1 (val1 (isiW (nm1 rfl)))) (val1 (bin1 (callo (tup1 (consA2 (fld1 (nm1 rfl) (fld_bells _ _)) (consA2 (fld1 (nm1 rfl) (fld_wakes _ _)) nA)) (show 2 ≤ sizeLine by decide)) rp) (callo (tup1 (consA2 (tuple1 (nm1 rfl)) (consA2 (tuple1 (nm1 rfl)) nA)) (show 2 ≤ sizeLine by decide)) rp) (ne_self _)))) nx1) ?_)
    refine wp_seq (wp_eq (a := .nx) (e := [.dat (.lst (l.map .str)), .dat (.lst (w.map dP)), .dat (.str t), .dat (webD l w), .dat (webD l w)]) (ifSf (or2 (val1 (bin1 (strO1 (consA2 (nm1 rfl) nA) cs) (nm1 rfl) (ne_self _))) (or2 (not1 (val1 (eqa_web false h hw h hw (nm1 rfl) (nm1 rfl) (b := true) (by simp [tst])))) (val1 (eqa_web true h hw h hw (nm1 rfl) (nm1 rfl) (b := false) (by simp [tst]))))) nx1) (wp_nx.mpr ⟨rfl, some _, rfl⟩))
  · rintro e' ⟨o, rfl⟩
    exact wp_seq (wp_eq (ret1 (bin1 (strO1 (consA2 (nm1 rfl) nA) cs) (nm1 rfl) (eq_self' _))) ⟨rfl, rfl⟩)
theorem right_ok {p : Int × Int} (hp : PO p) : ∃ p', f_law_right [.bor (pd p)] = .ok (.bl true) [.bor (pd p')] := by
  suffices h : Wp (f_law_right [.bor (pd p)]) fun d svs => ∃ p', d = .bl true ∧ svs = [.bor (pd p')] by
    obtain ⟨d, svs, e, p', rfl, rfl⟩ := h
    exact ⟨p', e⟩
  refine fn_wp ?_
  unfold b_law_right
  obtain ⟨n, p1, hp1, n1, n2, c1⟩ := size_ok hp
  obtain ⟨l, p2, hp2, h, hl, c2⟩ := calls_ok hp1 n1 n2
  obtain ⟨w, p3, hp3, hw, c3⟩ := links_ok hp2 h
  have hz : w.length ≤ sizeLine := Nat.le_trans hw.len (by decide)
  refine wp_seq (wp_eq (a := .nx) (e := [.bor (pd p2), .dat (.lst (l.map .str)), .un, .un, .un, .un]) (asg1 (callRd (e := [.bor (pd p), .un, .un, .un, .un, .un]) ⟨pd p, rfl⟩ (callRd (e := [.bor (pd p), .un, .un, .un, .un, .un]) ⟨pd p, rfl⟩ cn1 rfl c1) rfl c2) rfl rfl) ?_)
  refine wp_seq (wp_eq (a := .nx) (e := [.bor (pd p3), .dat (.lst (l.map .str)), .dat (.lst (w.map dP)), .un, .un, .un]) (asg1 (callRd (e := [.bor (pd p2), .dat (.lst (l.map .str)), .un, .un, .un, .un]) ⟨pd p2, rfl⟩ (nm1 rfl) rfl c3) rfl rfl) ?_)
  have c4 := read_ok h hw
  refine wp_seq (wp_eq (a := .nx) (e := [.bor (pd p3), .dat (.lst (l.map .str)), .dat (.lst (w.map dP)), .un, .un, .un]) (ifSf (not1 (val1 (callS1 (cRd (nm1 rfl) (cRd (nm1 rfl) nR)) nR (fnC2 c4 rfl rfl)))) nx1) ?_)
  obtain ⟨ys, p4, hc, hp4, hsub⟩ := compF_sub (vs := [4]) (ri := itA (nameD 1)) (rg := setD 4) (rt := valT (bin2 (pur2 gtF) (callS (fnCall f_law_take) (posA []) (consRr 0 (consRd (constD (.int 3)) nilR)) nilR) (constD (.int 0)))) (re := nameD 4) (env := [.bor (pd p3), .dat (.lst (l.map .str)), .dat (.lst (w.map dP)), .un, .un, .un]) (e1 := [.bor (pd p3), .dat (.lst (l.map .str)), .dat (.lst (w.map dP)), .un, .un, .un]) (l.map .str) p3 (fun q => [.bor (pd q), .dat (.lst (l.map .str)), .dat (.lst (w.map dP)), .un, .un, .un]) PO (itL1 (nm1 rfl)) rfl (by rw [List.length_map]; exact Nat.le_trans h.hi (by decide)) rfl hp3 (fun d q m hq => by
    obtain ⟨r, q', hq', _, _, cr⟩ := callT (e := [.bor (pd q), .dat (.lst (l.map .str)), .dat (.lst (w.map dP)), .un, .dat d, .un]) (i := 0) (u := 3) rfl hq cn1 (by decide) (by decide)
    exact ⟨[.bor (pd q), .dat (.lst (l.map .str)), .dat (.lst (w.map dP)), .un, .dat d, .un], _, [.bor (pd q'), .dat (.lst (l.map .str)), .dat (.lst (w.map dP)), .un, .dat d, .un], q', rfl, rfl, val1 (bin1 cr cn1 rfl), rfl, nm1 rfl, hq', rfl⟩)
  obtain ⟨m, ms, rfl⟩ := List.sublist_map_iff.mp hsub
  refine wp_seq (wp_eq (a := .nx) (e := [.bor (pd p4), .dat (.lst (l.map .str)), .dat (.lst (w.map dP)), .dat (.lst (m.map .str)), .un, .un]) (asg1 (held_ok hc) rfl rfl) ?_)
  have ce := eqF_lS false (l := m) (m := []) (fun s q => h.sok s (ms.subset q)) fun s q => by simp at q
  have fin : ∀ {m : List Str}, Bl m → (∀ s ∈ m, s ∈ l) → Wp (seqS (retS (callS (fnCall K05.f_law_read_right) (posA []) (consRd (nameD 3) (consRd (heldD (compF [5] (itA (nameD 2)) (setD 5) (andT (valT (bin2 (pur2 (inF false)) (bin2 (pur2 ixF) (nameD 5) (constD (.int 0))) (nameD 3))) (valT (bin2 (pur2 (inF false)) (bin2 (pur2 ixF) (nameD 5) (constD (.int 1))) (nameD 3)))) (nameD 5))) nilR)) nilR)) nextS [.bor (pd p4), .dat (.lst (l.map .str)), .dat (.lst (w.map dP)), .dat (.lst (m.map .str)), .un, .un]) fun fl e => match fl with
      | .nx => ∃ p', D.non = .bl true ∧ backA [.bor (pd p)] e = [.bor (pd p')]
      | .rt d => ∃ p', d = .bl true ∧ backA [.bor (pd p)] e = [.bor (pd p')]
      | _ => False := fun {m} hm sub => by
    have c7 : compF [5] (itA (nameD 2)) (setD 5) (andT (valT (bin2 (pur2 (inF false)) (bin2 (pur2 ixF) (nameD 5) (constD (.int 0))) (nameD 3))) (valT (bin2 (pur2 (inF false)) (bin2 (pur2 ixF) (nameD 5) (constD (.int 1))) (nameD 3)))) (nameD 5) [.bor (pd p4), .dat (.lst (l.map .str)), .dat (.lst (w.map dP)), .dat (.lst (m.map .str)), .un, .un] = .ok ((ow m w).map dP) [.bor (pd p4), .dat (.lst (l.map .str)), .dat (.lst (w.map dP)), .dat (.lst (m.map .str)), .un, .un] := by
      refine compF_map (f := dP) (itL1 (nm1 rfl)) rfl hz rfl fun p mp => ⟨[.bor (pd p4), .dat (.lst (l.map .str)), .dat (.lst (w.map dP)), .dat (.lst (m.map .str)), .un, .dat (dP p)], rfl, rfl, rfl, ?_, fun _ => nm1 rfl⟩
      refine and3 (val1 (bin1 (bin1 (nm1 rfl) cn1 rfl) (nm1 rfl) (inF_lS false p.1 m))) ?_
      show (if decide (p.1 ∈ m) = true then _ else _) = _
      by_cases k1 : p.1 ∈ m
      · rw [if_pos (by simpa using k1)]
        exact (val1 (bin1 (bin1 (nm1 rfl) cn1 rfl) (nm1 rfl) (inF_lS false p.2 m))).trans (by simp [k1, tst])
      · rw [if_neg (by simpa using k1)]
        simp [k1]
    have c8 := read_ok hm (wk_ow (m := m) hw)
    exact wp_seq (wp_eq (ret1 (callS1 (cRd (nm1 rfl) (cRd (held_ok c7) nR)) nR (fnC2 c8 rfl rfl))) ⟨p4, rfl, rfl⟩)
  by_cases hm : m = []
  · have ne : l ≠ [] := fun z => by have := h.lo; rw [z] at this; simp at this
    have el := List.dropLast_concat_getLast ne
    have ml : l.getLast ne ∈ l := List.getLast_mem ne
    have cl : ∀ e : Env, cutLF (.lst (l.map .str)) (some (-1)) none e = .ok ([l.getLast ne].map .str) e := fun e => by
      show Out.ok (cutL (l.map D.str) (some (-1)) none) _ = _
      have e2 : l.map D.str = l.dropLast.map .str ++ [.str (l.getLast ne)] := by
        conv => lhs; rw [← el]
        rw [List.map_append]
        rfl
      rw [e2, cut_last]
      rfl
    refine wp_seq (wp_eq (a := .nx) (e := [.bor (pd p4), .dat (.lst (l.map .str)), .dat (.lst (w.map dP)), .dat (.lst ([l.getLast ne].map .str)), .un, .un]) (ifSt (val1 (bin1 (nm1 rfl) (held_ok (lst1 rfl (Nat.zero_le _))) (ce.trans (by simp [tst, hm])))) (seqS1 (asg1 (cutL1 (nm1 rfl) (sO (un1' cn1 rfl)) nO (cl _)) rfl rfl) nx1)) ?_)
    exact fin (bl_one h ml) fun s q => by simp at q; subst q; exact ml
  · refine wp_seq (wp_eq (a := .nx) (e := [.bor (pd p4), .dat (.lst (l.map .str)), .dat (.lst (w.map dP)), .dat (.lst (m.map .str)), .un, .un]) (ifSf (val1 (bin1 (nm1 rfl) (held_ok (lst1 rfl (Nat.zero_le _))) (ce.trans (by simp [tst, hm])))) nx1) ?_)
    exact fin (bl_sub h ms hm) fun s q => ms.subset q
theorem law_true : ∀ ns : List Int, ns.length ≤ 63 → ∃ e, f_law [.dat (.ro (ns.map D.int))] = .ok (.bl true) e := law_of (right := f_law_right) (M := 8) (fun p hp => right_ok hp) (by decide)
end DL.K05

/-! ==== GE_K05 -/
/-! GE: the facts of the top, the row (printed by gen.py) -/
namespace DL.K05
open PySem PySem.Spec PyProof.Rows L2

theorem all_mk {P : Program} {w : World} {K : PySem.W.Frag} {h : Heap} {mg : Str → Option Value} {fa C_Web f_law_purse f_law_take f_law_calls f_law_links f_Web_eq f_check_bell f_Web_woken f_Web_str f_law_text f_is_name f_check_bells f_is_wake f_check_wakes f_Web_init f_law_web f_read_row f_read_web f_law_read_right f_law_size f_law_right f_law : Addr} (X : K.In h) (G : h.Ns mainGlobals mg) (hfa : mg "law" = some (.ref fa))
    {od_law_purse an_law_purse od_law_take an_law_take od_law_calls an_law_calls od_law_links an_law_links od_Web_eq an_Web_eq od_check_bell an_check_bell od_Web_woken an_Web_woken od_Web_str an_Web_str od_law_text an_law_text od_is_name an_is_name od_check_bells an_check_bells od_is_wake an_is_wake od_check_wakes an_check_wakes od_Web_init an_Web_init od_law_web an_law_web od_read_row an_read_row od_read_web an_read_web od_law_read_right an_law_read_right od_law_size an_law_size od_law_right an_law_right od_law an_law : Option Addr} {sl_law_purse sl_law_take sl_law_calls sl_law_links sl_Web_eq sl_check_bell sl_Web_woken sl_Web_str sl_law_text sl_is_name sl_check_bells sl_is_wake sl_check_wakes sl_Web_init sl_law_web sl_read_row sl_read_web sl_law_read_right sl_law_size sl_law_right sl_law : Array (Option Value)} {oc_law_purse kV_law_purse dc_law_purse pm_law_purse cd_law_purse ct_law_purse oc_law_take kV_law_take dc_law_take pm_law_take cd_law_take ct_law_take oc_law_calls kV_law_calls dc_law_calls pm_law_calls cd_law_calls ct_law_calls oc_law_links kV_law_links dc_law_links pm_law_links cd_law_links ct_law_links oc_Web_eq kV_Web_eq dc_Web_eq pm_Web_eq cd_Web_eq ct_Web_eq oc_check_bell kV_check_bell dc_check_bell pm_check_bell cd_check_bell ct_check_bell oc_Web_woken kV_Web_woken dc_Web_woken pm_Web_woken cd_Web_woken ct_Web_woken oc_Web_str kV_Web_str dc_Web_str pm_Web_str cd_Web_str ct_Web_str oc_law_text kV_law_text dc_law_text pm_law_text cd_law_text ct_law_text oc_is_name kV_is_name dc_is_name pm_is_name cd_is_name ct_is_name oc_check_bells kV_check_bells dc_check_bells pm_check_bells cd_check_bells ct_check_bells oc_is_wake kV_is_wake dc_is_wake pm_is_wake cd_is_wake ct_is_wake oc_check_wakes kV_check_wakes dc_check_wakes pm_check_wakes cd_check_wakes ct_check_wakes oc_Web_init kV_Web_init dc_Web_init pm_Web_init cd_Web_init ct_Web_init oc_law_web kV_law_web dc_law_web pm_law_web cd_law_web ct_law_web oc_read_row kV_read_row dc_read_row pm_read_row cd_read_row ct_read_row oc_read_web kV_read_web dc_read_web pm_read_web cd_read_web ct_read_web oc_law_read_right kV_law_read_right dc_law_read_right pm_law_read_right cd_law_read_right ct_law_read_right oc_law_size kV_law_size dc_law_size pm_law_size cd_law_size ct_law_size oc_law_right kV_law_right dc_law_right pm_law_right cd_law_right ct_law_right oc_law kV_law dc_law pm_law cd_law ct_law : Value} {t_LETTERS t_MOST_BELLS t_MOST_LETTERS : Tok}
    (aC_Web : PySem.W.nsIn K mainGlobals "Web" = some (some (.ref C_Web)))
    (pg_Web : PySem.W.plainGet K C_Web Str.empty = true)
    (hd_Web : PySem.W.hasDictIn K C_Web = true)
    (po_Web : PySem.W.plainOver K C_Web = true)
    (sa_Web : PySem.W.findIn K (.ref C_Web) "__setattr__" = some (some (.builtin "object.__setattr__")))
    (a_law_purse : PySem.W.nsIn K mainGlobals ("_law_purse" : Str) = some (some (.ref f_law_purse)))
    (l_law_purse : K.lookup f_law_purse = some ⟨oc_law_purse, od_law_purse, .func (PySem.W.fnOf ("_law_purse" : Str) ("_law_purse" : Str) (defArgs s_law_purse) (defBody s_law_purse) (defScope s_law_purse) .none kV_law_purse dc_law_purse pm_law_purse an_law_purse cd_law_purse ct_law_purse), sl_law_purse⟩)
    (c_law_purse : PySem.W.codeIn K cd_law_purse ("_law_purse" : Str) = true)
    (k_law_purse : PySem.W.keepIn K (.ref f_law_purse) = true)
    (a_law_take : PySem.W.nsIn K mainGlobals ("_law_take" : Str) = some (some (.ref f_law_take)))
    (l_law_take : K.lookup f_law_take = some ⟨oc_law_take, od_law_take, .func (PySem.W.fnOf ("_law_take" : Str) ("_law_take" : Str) (defArgs s_law_take) (defBody s_law_take) (defScope s_law_take) .none kV_law_take dc_law_take pm_law_take an_law_take cd_law_take ct_law_take), sl_law_take⟩)
    (c_law_take : PySem.W.codeIn K cd_law_take ("_law_take" : Str) = true)
    (k_law_take : PySem.W.keepIn K (.ref f_law_take) = true)
    (a_law_calls : PySem.W.nsIn K mainGlobals ("_law_calls" : Str) = some (some (.ref f_law_calls)))
    (l_law_calls : K.lookup f_law_calls = some ⟨oc_law_calls, od_law_calls, .func (PySem.W.fnOf ("_law_calls" : Str) ("_law_calls" : Str) (defArgs s_law_calls) (defBody s_law_calls) (defScope s_law_calls) .none kV_law_calls dc_law_calls pm_law_calls an_law_calls cd_law_calls ct_law_calls), sl_law_calls⟩)
    (c_law_calls : PySem.W.codeIn K cd_law_calls ("_law_calls" : Str) = true)
    (k_law_calls : PySem.W.keepIn K (.ref f_law_calls) = true)
    (a_law_links : PySem.W.nsIn K mainGlobals ("_law_links" : Str) = some (some (.ref f_law_links)))
    (l_law_links : K.lookup f_law_links = some ⟨oc_law_links, od_law_links, .func (PySem.W.fnOf ("_law_links" : Str) ("_law_links" : Str) (defArgs s_law_links) (defBody s_law_links) (defScope s_law_links) .none kV_law_links dc_law_links pm_law_links an_law_links cd_law_links ct_law_links), sl_law_links⟩)
    (c_law_links : PySem.W.codeIn K cd_law_links ("_law_links" : Str) = true)
    (k_law_links : PySem.W.keepIn K (.ref f_law_links) = true)
    (a_Web_eq : PySem.W.findIn K (.ref C_Web) ("__eq__" : Str) = some (some (.ref f_Web_eq)))
    (i_Web_eq : PySem.W.isFn K (.ref f_Web_eq) = true)
    (l_Web_eq : K.lookup f_Web_eq = some ⟨oc_Web_eq, od_Web_eq, .func (PySem.W.fnOf ("__eq__" : Str) ("Web.__eq__" : Str) (defArgs s_Web_eq) (defBody s_Web_eq) (defScope s_Web_eq) .none kV_Web_eq dc_Web_eq pm_Web_eq an_Web_eq cd_Web_eq ct_Web_eq), sl_Web_eq⟩)
    (c_Web_eq : PySem.W.codeIn K cd_Web_eq ("Web.__eq__" : Str) = true)
    (k_Web_eq : PySem.W.keepIn K (.ref f_Web_eq) = true)
    (a_check_bell : PySem.W.nsIn K mainGlobals ("check_bell" : Str) = some (some (.ref f_check_bell)))
    (l_check_bell : K.lookup f_check_bell = some ⟨oc_check_bell, od_check_bell, .func (PySem.W.fnOf ("check_bell" : Str) ("check_bell" : Str) (defArgs s_check_bell) (defBody s_check_bell) (defScope s_check_bell) .none kV_check_bell dc_check_bell pm_check_bell an_check_bell cd_check_bell ct_check_bell), sl_check_bell⟩)
    (c_check_bell : PySem.W.codeIn K cd_check_bell ("check_bell" : Str) = true)
    (k_check_bell : PySem.W.keepIn K (.ref f_check_bell) = true)
    (a_Web_woken : PySem.W.findIn K (.ref C_Web) ("woken" : Str) = some (some (.ref f_Web_woken)))
    (i_Web_woken : PySem.W.isFn K (.ref f_Web_woken) = true)
    (l_Web_woken : K.lookup f_Web_woken = some ⟨oc_Web_woken, od_Web_woken, .func (PySem.W.fnOf ("woken" : Str) ("Web.woken" : Str) (defArgs s_Web_woken) (defBody s_Web_woken) (defScope s_Web_woken) .none kV_Web_woken dc_Web_woken pm_Web_woken an_Web_woken cd_Web_woken ct_Web_woken), sl_Web_woken⟩)
    (c_Web_woken : PySem.W.codeIn K cd_Web_woken ("Web.woken" : Str) = true)
    (k_Web_woken : PySem.W.keepIn K (.ref f_Web_woken) = true)
    (a_Web_str : PySem.W.findIn K (.ref C_Web) ("__str__" : Str) = some (some (.ref f_Web_str)))
    (i_Web_str : PySem.W.isFn K (.ref f_Web_str) = true)
    (l_Web_str : K.lookup f_Web_str = some ⟨oc_Web_str, od_Web_str, .func (PySem.W.fnOf ("__str__" : Str) ("Web.__str__" : Str) (defArgs s_Web_str) (defBody s_Web_str) (defScope s_Web_str) .none kV_Web_str dc_Web_str pm_Web_str an_Web_str cd_Web_str ct_Web_str), sl_Web_str⟩)
    (c_Web_str : PySem.W.codeIn K cd_Web_str ("Web.__str__" : Str) = true)
    (k_Web_str : PySem.W.keepIn K (.ref f_Web_str) = true)
    (a_law_text : PySem.W.nsIn K mainGlobals ("_law_text" : Str) = some (some (.ref f_law_text)))
    (l_law_text : K.lookup f_law_text = some ⟨oc_law_text, od_law_text, .func (PySem.W.fnOf ("_law_text" : Str) ("_law_text" : Str) (defArgs s_law_text) (defBody s_law_text) (defScope s_law_text) .none kV_law_text dc_law_text pm_law_text an_law_text cd_law_text ct_law_text), sl_law_text⟩)
    (c_law_text : PySem.W.codeIn K cd_law_text ("_law_text" : Str) = true)
    (k_law_text : PySem.W.keepIn K (.ref f_law_text) = true)
    (a_is_name : PySem.W.nsIn K mainGlobals ("is_name" : Str) = some (some (.ref f_is_name)))
    (l_is_name : K.lookup f_is_name = some ⟨oc_is_name, od_is_name, .func (PySem.W.fnOf ("is_name" : Str) ("is_name" : Str) (defArgs s_is_name) (defBody s_is_name) (defScope s_is_name) .none kV_is_name dc_is_name pm_is_name an_is_name cd_is_name ct_is_name), sl_is_name⟩)
    (c_is_name : PySem.W.codeIn K cd_is_name ("is_name" : Str) = true)
    (k_is_name : PySem.W.keepIn K (.ref f_is_name) = true)
    (a_check_bells : PySem.W.nsIn K mainGlobals ("check_bells" : Str) = some (some (.ref f_check_bells)))
    (l_check_bells : K.lookup f_check_bells = some ⟨oc_check_bells, od_check_bells, .func (PySem.W.fnOf ("check_bells" : Str) ("check_bells" : Str) (defArgs s_check_bells) (defBody s_check_bells) (defScope s_check_bells) .none kV_check_bells dc_check_bells pm_check_bells an_check_bells cd_check_bells ct_check_bells), sl_check_bells⟩)
    (c_check_bells : PySem.W.codeIn K cd_check_bells ("check_bells" : Str) = true)
    (k_check_bells : PySem.W.keepIn K (.ref f_check_bells) = true)
    (a_is_wake : PySem.W.nsIn K mainGlobals ("is_wake" : Str) = some (some (.ref f_is_wake)))
    (l_is_wake : K.lookup f_is_wake = some ⟨oc_is_wake, od_is_wake, .func (PySem.W.fnOf ("is_wake" : Str) ("is_wake" : Str) (defArgs s_is_wake) (defBody s_is_wake) (defScope s_is_wake) .none kV_is_wake dc_is_wake pm_is_wake an_is_wake cd_is_wake ct_is_wake), sl_is_wake⟩)
    (c_is_wake : PySem.W.codeIn K cd_is_wake ("is_wake" : Str) = true)
    (k_is_wake : PySem.W.keepIn K (.ref f_is_wake) = true)
    (a_check_wakes : PySem.W.nsIn K mainGlobals ("check_wakes" : Str) = some (some (.ref f_check_wakes)))
    (l_check_wakes : K.lookup f_check_wakes = some ⟨oc_check_wakes, od_check_wakes, .func (PySem.W.fnOf ("check_wakes" : Str) ("check_wakes" : Str) (defArgs s_check_wakes) (defBody s_check_wakes) (defScope s_check_wakes) .none kV_check_wakes dc_check_wakes pm_check_wakes an_check_wakes cd_check_wakes ct_check_wakes), sl_check_wakes⟩)
    (c_check_wakes : PySem.W.codeIn K cd_check_wakes ("check_wakes" : Str) = true)
    (k_check_wakes : PySem.W.keepIn K (.ref f_check_wakes) = true)
    (a_Web_init : PySem.W.findIn K (.ref C_Web) ("__init__" : Str) = some (some (.ref f_Web_init)))
    (i_Web_init : PySem.W.isFn K (.ref f_Web_init) = true)
    (l_Web_init : K.lookup f_Web_init = some ⟨oc_Web_init, od_Web_init, .func (PySem.W.fnOf ("__init__" : Str) ("Web.__init__" : Str) (defArgs s_Web_init) (defBody s_Web_init) (defScope s_Web_init) .none kV_Web_init dc_Web_init pm_Web_init an_Web_init cd_Web_init ct_Web_init), sl_Web_init⟩)
    (c_Web_init : PySem.W.codeIn K cd_Web_init ("Web.__init__" : Str) = true)
    (k_Web_init : PySem.W.keepIn K (.ref f_Web_init) = true)
    (a_law_web : PySem.W.nsIn K mainGlobals ("_law_web" : Str) = some (some (.ref f_law_web)))
    (l_law_web : K.lookup f_law_web = some ⟨oc_law_web, od_law_web, .func (PySem.W.fnOf ("_law_web" : Str) ("_law_web" : Str) (defArgs s_law_web) (defBody s_law_web) (defScope s_law_web) .none kV_law_web dc_law_web pm_law_web an_law_web cd_law_web ct_law_web), sl_law_web⟩)
    (c_law_web : PySem.W.codeIn K cd_law_web ("_law_web" : Str) = true)
    (k_law_web : PySem.W.keepIn K (.ref f_law_web) = true)
    (a_read_row : PySem.W.nsIn K mainGlobals ("read_row" : Str) = some (some (.ref f_read_row)))
    (l_read_row : K.lookup f_read_row = some ⟨oc_read_row, od_read_row, .func (PySem.W.fnOf ("read_row" : Str) ("read_row" : Str) (defArgs s_read_row) (defBody s_read_row) (defScope s_read_row) .none kV_read_row dc_read_row pm_read_row an_read_row cd_read_row ct_read_row), sl_read_row⟩)
    (c_read_row : PySem.W.codeIn K cd_read_row ("read_row" : Str) = true)
    (k_read_row : PySem.W.keepIn K (.ref f_read_row) = true)
    (a_read_web : PySem.W.nsIn K mainGlobals ("read_web" : Str) = some (some (.ref f_read_web)))
    (l_read_web : K.lookup f_read_web = some ⟨oc_read_web, od_read_web, .func (PySem.W.fnOf ("read_web" : Str) ("read_web" : Str) (defArgs s_read_web) (defBody s_read_web) (defScope s_read_web) .none kV_read_web dc_read_web pm_read_web an_read_web cd_read_web ct_read_web), sl_read_web⟩)
    (c_read_web : PySem.W.codeIn K cd_read_web ("read_web" : Str) = true)
    (k_read_web : PySem.W.keepIn K (.ref f_read_web) = true)
    (a_law_read_right : PySem.W.nsIn K mainGlobals ("_law_read_right" : Str) = some (some (.ref f_law_read_right)))
    (l_law_read_right : K.lookup f_law_read_right = some ⟨oc_law_read_right, od_law_read_right, .func (PySem.W.fnOf ("_law_read_right" : Str) ("_law_read_right" : Str) (defArgs s_law_read_right) (defBody s_law_read_right) (defScope s_law_read_right) .none kV_law_read_right dc_law_read_right pm_law_read_right an_law_read_right cd_law_read_right ct_law_read_right), sl_law_read_right⟩)
    (c_law_read_right : PySem.W.codeIn K cd_law_read_right ("_law_read_right" : Str) = true)
    (k_law_read_right : PySem.W.keepIn K (.ref f_law_read_right) = true)
    (a_law_size : PySem.W.nsIn K mainGlobals ("_law_size" : Str) = some (some (.ref f_law_size)))
    (l_law_size : K.lookup f_law_size = some ⟨oc_law_size, od_law_size, .func (PySem.W.fnOf ("_law_size" : Str) ("_law_size" : Str) (defArgs s_law_size) (defBody s_law_size) (defScope s_law_size) .none kV_law_size dc_law_size pm_law_size an_law_size cd_law_size ct_law_size), sl_law_size⟩)
    (c_law_size : PySem.W.codeIn K cd_law_size ("_law_size" : Str) = true)
    (k_law_size : PySem.W.keepIn K (.ref f_law_size) = true)
    (a_law_right : PySem.W.nsIn K mainGlobals ("_law_right" : Str) = some (some (.ref f_law_right)))
    (l_law_right : K.lookup f_law_right = some ⟨oc_law_right, od_law_right, .func (PySem.W.fnOf ("_law_right" : Str) ("_law_right" : Str) (defArgs s_law_right) (defBody s_law_right) (defScope s_law_right) .none kV_law_right dc_law_right pm_law_right an_law_right cd_law_right ct_law_right), sl_law_right⟩)
    (c_law_right : PySem.W.codeIn K cd_law_right ("_law_right" : Str) = true)
    (k_law_right : PySem.W.keepIn K (.ref f_law_right) = true)
    (a_law : PySem.W.nsIn K mainGlobals ("law" : Str) = some (some (.ref f_law)))
    (l_law : K.lookup f_law = some ⟨oc_law, od_law, .func (PySem.W.fnOf ("law" : Str) ("law" : Str) (defArgs s_law) (defBody s_law) (defScope s_law) .none kV_law dc_law pm_law an_law cd_law ct_law), sl_law⟩)
    (c_law : PySem.W.codeIn K cd_law ("law" : Str) = true)
    (k_law : PySem.W.keepIn K (.ref f_law) = true)
    (n_Web_bells : PySem.W.findIn K (.ref C_Web) ("bells" : Str) = some none)
    (n_Web_wakes : PySem.W.findIn K (.ref C_Web) ("wakes" : Str) = some none)
    (mk_Web : PySem.W.makesIn K C_Web = true)
    (kc_Web : PySem.W.keepIn K (.ref C_Web) = true)
    (qn : PySem.W.specialIn K (.builtin "object.__class__") "__get__" = some (some (.builtin "getset_descriptor.__get__")))
    (qt : PySem.W.takesIn K (.builtin "object.__class__") = some true)
    (qa_Web : PySem.W.findIn K (.ref C_Web) "__class__" = some (some (.builtin "object.__class__")))
    (qm_Web : PySem.W.mroIn K C_Web (.type "object") = some true)
    (ne_Web : PySem.W.findIn K (.ref C_Web) "__ne__" = some (some (.builtin "object.__ne__")))
    (z_all : PySem.W.nsIn K mainGlobals "all" = some none)
    (z_enumerate : PySem.W.nsIn K mainGlobals "enumerate" = some none)
    (z_int : PySem.W.nsIn K mainGlobals "int" = some none)
    (z_isinstance : PySem.W.nsIn K mainGlobals "isinstance" = some none)
    (z_len : PySem.W.nsIn K mainGlobals "len" = some none)
    (z_list : PySem.W.nsIn K mainGlobals "list" = some none)
    (z_max : PySem.W.nsIn K mainGlobals "max" = some none)
    (z_min : PySem.W.nsIn K mainGlobals "min" = some none)
    (z_range : PySem.W.nsIn K mainGlobals "range" = some none)
    (z_repr : PySem.W.nsIn K mainGlobals "repr" = some none)
    (z_sorted : PySem.W.nsIn K mainGlobals "sorted" = some none)
    (z_str : PySem.W.nsIn K mainGlobals "str" = some none)
    (z_tuple : PySem.W.nsIn K mainGlobals "tuple" = some none)
    (g_LETTERS : PySem.W.nsIn K mainGlobals "LETTERS" = some (some (.str ("abcdefghijklmnopqrstuvwxyz" : Str) t_LETTERS)))
    (g_MOST_BELLS : PySem.W.nsIn K mainGlobals "MOST_BELLS" = some (some (.int 12 t_MOST_BELLS)))
    (g_MOST_LETTERS : PySem.W.nsIn K mainGlobals "MOST_LETTERS" = some (some (.int 8 t_MOST_LETTERS)))
    : ∃ fd : FuncData, (∀ (s : Shared) (u : Value), BindsTo s fd ⟨[u], []⟩ [(("_law_script" : Str), u)]) ∧ ∀ base : Heap, K.In base → base.Ns mainGlobals mg → FnG P w K mg base CX0 9 fa fd [("_law_script" : Str)] (spLaw K) :=
  fin (T := {
    C_Web := C_Web,
    mg_Web := PySem.W.mg_of X G aC_Web,
    cl_Web := ⟨pg_Web, hd_Web, po_Web, sa_Web⟩,
    a_law_purse := f_law_purse,
    fd_law_purse := _,
    fn_law_purse := funD_mk l_law_purse c_law_purse k_law_purse,
    mg_law_purse := PySem.W.mg_of X G a_law_purse,
    a_law_take := f_law_take,
    fd_law_take := _,
    fn_law_take := funD_mk l_law_take c_law_take k_law_take,
    mg_law_take := PySem.W.mg_of X G a_law_take,
    a_law_calls := f_law_calls,
    fd_law_calls := _,
    fn_law_calls := funD_mk l_law_calls c_law_calls k_law_calls,
    mg_law_calls := PySem.W.mg_of X G a_law_calls,
    a_law_links := f_law_links,
    fd_law_links := _,
    fn_law_links := funD_mk l_law_links c_law_links k_law_links,
    mg_law_links := PySem.W.mg_of X G a_law_links,
    a_Web_eq := f_Web_eq,
    fd_Web_eq := _,
    fn_Web_eq := funD_mk l_Web_eq c_Web_eq k_Web_eq,
    me_Web_eq := ⟨a_Web_eq, i_Web_eq, k_Web_eq⟩,
    a_check_bell := f_check_bell,
    fd_check_bell := _,
    fn_check_bell := funD_mk l_check_bell c_check_bell k_check_bell,
    mg_check_bell := PySem.W.mg_of X G a_check_bell,
    a_Web_woken := f_Web_woken,
    fd_Web_woken := _,
    fn_Web_woken := funD_mk l_Web_woken c_Web_woken k_Web_woken,
    me_Web_woken := ⟨a_Web_woken, i_Web_woken, k_Web_woken⟩,
    a_Web_str := f_Web_str,
    fd_Web_str := _,
    fn_Web_str := funD_mk l_Web_str c_Web_str k_Web_str,
    me_Web_str := ⟨a_Web_str, i_Web_str, k_Web_str⟩,
    a_law_text := f_law_text,
    fd_law_text := _,
    fn_law_text := funD_mk l_law_text c_law_text k_law_text,
    mg_law_text := PySem.W.mg_of X G a_law_text,
    a_is_name := f_is_name,
    fd_is_name := _,
    fn_is_name := funD_mk l_is_name c_is_name k_is_name,
    mg_is_name := PySem.W.mg_of X G a_is_name,
    a_check_bells := f_check_bells,
    fd_check_bells := _,
    fn_check_bells := funD_mk l_check_bells c_check_bells k_check_bells,
    mg_check_bells := PySem.W.mg_of X G a_check_bells,
    a_is_wake := f_is_wake,
    fd_is_wake := _,
    fn_is_wake := funD_mk l_is_wake c_is_wake k_is_wake,
    mg_is_wake := PySem.W.mg_of X G a_is_wake,
    a_check_wakes := f_check_wakes,
    fd_check_wakes := _,
    fn_check_wakes := funD_mk l_check_wakes c_check_wakes k_check_wakes,
    mg_check_wakes := PySem.W.mg_of X G a_check_wakes,
    a_Web_init := f_Web_init,
    fd_Web_init := _,
    fn_Web_init := funD_mk l_Web_init c_Web_init k_Web_init,
    a_law_web := f_law_web,
    fd_law_web := _,
    fn_law_web := funD_mk l_law_web c_law_web k_law_web,
    mg_law_web := PySem.W.mg_of X G a_law_web,
    a_read_row := f_read_row,
    fd_read_row := _,
    fn_read_row := funD_mk l_read_row c_read_row k_read_row,
    mg_read_row := PySem.W.mg_of X G a_read_row,
    a_read_web := f_read_web,
    fd_read_web := _,
    fn_read_web := funD_mk l_read_web c_read_web k_read_web,
    mg_read_web := PySem.W.mg_of X G a_read_web,
    a_law_read_right := f_law_read_right,
    fd_law_read_right := _,
    fn_law_read_right := funD_mk l_law_read_right c_law_read_right k_law_read_right,
    mg_law_read_right := PySem.W.mg_of X G a_law_read_right,
    a_law_size := f_law_size,
    fd_law_size := _,
    fn_law_size := funD_mk l_law_size c_law_size k_law_size,
    mg_law_size := PySem.W.mg_of X G a_law_size,
    a_law_right := f_law_right,
    fd_law_right := _,
    fn_law_right := funD_mk l_law_right c_law_right k_law_right,
    mg_law_right := PySem.W.mg_of X G a_law_right,
    a_law := f_law,
    fd_law := _,
    fn_law := funD_mk l_law c_law k_law,
    mg_law := PySem.W.mg_of X G a_law,
    na_Web_bells := n_Web_bells,
    na_Web_wakes := n_Web_wakes,
    mk_Web := ⟨mk_Web, a_Web_init, i_Web_init, kc_Web⟩,
    co_Web := ⟨⟨pg_Web, hd_Web, po_Web, sa_Web⟩, qa_Web, qn, qt, qm_Web⟩,
    ki_Web := kit_self,
    ne_Web := ne_Web,
    b_all := PySem.W.mg_none_of X G z_all,
    b_enumerate := PySem.W.mg_none_of X G z_enumerate,
    b_int := PySem.W.mg_none_of X G z_int,
    b_isinstance := PySem.W.mg_none_of X G z_isinstance,
    b_len := PySem.W.mg_none_of X G z_len,
    b_list := PySem.W.mg_none_of X G z_list,
    b_max := PySem.W.mg_none_of X G z_max,
    b_min := PySem.W.mg_none_of X G z_min,
    b_range := PySem.W.mg_none_of X G z_range,
    b_repr := PySem.W.mg_none_of X G z_repr,
    b_sorted := PySem.W.mg_none_of X G z_sorted,
    b_str := PySem.W.mg_none_of X G z_str,
    b_tuple := PySem.W.mg_none_of X G z_tuple,
    t_LETTERS := t_LETTERS,
    g_LETTERS := PySem.W.mg_of X G g_LETTERS,
    t_MOST_BELLS := t_MOST_BELLS,
    g_MOST_BELLS := PySem.W.mg_of X G g_MOST_BELLS,
    t_MOST_LETTERS := t_MOST_LETTERS,
    g_MOST_LETTERS := PySem.W.mg_of X G g_MOST_LETTERS }) hfa law_true
end DL.K05
open PySem PySem.W PyProof.Rows
set_option maxRecDepth 100000 in
set_option maxHeartbeats 0 in
theorem PySem.Challenge.cw_wakebells_k05_texts_of_webs_read_back_holds : PySem.Challenge.rw_wakebells_k05_texts_of_webs_read_back.Holds := by
  w_on; o_law; k_head; (case hw => w_witness2)
  k_fill
  refine DL.walk (l := PySem.Challenge.rw_wakebells_k05_texts_of_webs_read_back) (k := 9) (x := ("_law_script" : Str)) ⟨rfl, by decide, by decide⟩ rfl rfl (fun w h Y => PySem.W.kIn_of Y) ?F
  case F =>
    intro w mg fa h KX G hmg
    refine' DL.K05.all_mk KX G hmg ?aC_Web ?pg_Web ?hd_Web ?po_Web ?sa_Web ?a_law_purse ?l_law_purse ?c_law_purse ?k_law_purse ?a_law_take ?l_law_take ?c_law_take ?k_law_take ?a_law_calls ?l_law_calls ?c_law_calls ?k_law_calls ?a_law_links ?l_law_links ?c_law_links ?k_law_links ?a_Web_eq ?i_Web_eq ?l_Web_eq ?c_Web_eq ?k_Web_eq ?a_check_bell ?l_check_bell ?c_check_bell ?k_check_bell ?a_Web_woken ?i_Web_woken ?l_Web_woken ?c_Web_woken ?k_Web_woken ?a_Web_str ?i_Web_str ?l_Web_str ?c_Web_str ?k_Web_str ?a_law_text ?l_law_text ?c_law_text ?k_law_text ?a_is_name ?l_is_name ?c_is_name ?k_is_name ?a_check_bells ?l_check_bells ?c_check_bells ?k_check_bells ?a_is_wake ?l_is_wake ?c_is_wake ?k_is_wake ?a_check_wakes ?l_check_wakes ?c_check_wakes ?k_check_wakes ?a_Web_init ?i_Web_init ?l_Web_init ?c_Web_init ?k_Web_init ?a_law_web ?l_law_web ?c_law_web ?k_law_web ?a_read_row ?l_read_row ?c_read_row ?k_read_row ?a_read_web ?l_read_web ?c_read_web ?k_read_web ?a_law_read_right ?l_law_read_right ?c_law_read_right ?k_law_read_right ?a_law_size ?l_law_size ?c_law_size ?k_law_size ?a_law_right ?l_law_right ?c_law_right ?k_law_right ?a_law ?l_law ?c_law ?k_law ?n_Web_bells ?n_Web_wakes ?mk_Web ?kc_Web ?qn ?qt ?qa_Web ?qm_Web ?ne_Web ?z_all ?z_enumerate ?z_int ?z_isinstance ?z_len ?z_list ?z_max ?z_min ?z_range ?z_repr ?z_sorted ?z_str ?z_tuple ?g_LETTERS ?g_MOST_BELLS ?g_MOST_LETTERS
    (case aC_Web => k_is)
    (case pg_Web => k_is)
    (case hd_Web => k_is)
    (case po_Web => k_is)
    (case sa_Web => k_is)
    (case a_law_purse => k_is)
    (case l_law_purse => k_is)
    (case c_law_purse => k_is)
    (case k_law_purse => k_is)
    (case a_law_take => k_is)
    (case l_law_take => k_is)
    (case c_law_take => k_is)
    (case k_law_take => k_is)
    (case a_law_calls => k_is)
    (case l_law_calls => k_is)
    (case c_law_calls => k_is)
    (case k_law_calls => k_is)
    (case a_law_links => k_is)
    (case l_law_links => k_is)
    (case c_law_links => k_is)
    (case k_law_links => k_is)
    (case a_Web_eq => k_is)
    (case i_Web_eq => k_is)
    (case l_Web_eq => k_is)
    (case c_Web_eq => k_is)
    (case k_Web_eq => k_is)
    (case a_check_bell => k_is)
    (case l_check_bell => k_is)
    (case c_check_bell => k_is)
    (case k_check_bell => k_is)
    (case a_Web_woken => k_is)
    (case i_Web_woken => k_is)
    (case l_Web_woken => k_is)
    (case c_Web_woken => k_is)
    (case k_Web_woken => k_is)
    (case a_Web_str => k_is)
    (case i_Web_str => k_is)
    (case l_Web_str => k_is)
    (case c_Web_str => k_is)
    (case k_Web_str => k_is)
    (case a_law_text => k_is)
    (case l_law_text => k_is)
    (case c_law_text => k_is)
    (case k_law_text => k_is)
    (case a_is_name => k_is)
    (case l_is_name => k_is)
    (case c_is_name => k_is)
    (case k_is_name => k_is)
    (case a_check_bells => k_is)
    (case l_check_bells => k_is)
    (case c_check_bells => k_is)
    (case k_check_bells => k_is)
    (case a_is_wake => k_is)
    (case l_is_wake => k_is)
    (case c_is_wake => k_is)
    (case k_is_wake => k_is)
    (case a_check_wakes => k_is)
    (case l_check_wakes => k_is)
    (case c_check_wakes => k_is)
    (case k_check_wakes => k_is)
    (case a_Web_init => k_is)
    (case i_Web_init => k_is)
    (case l_Web_init => k_is)
    (case c_Web_init => k_is)
    (case k_Web_init => k_is)
    (case a_law_web => k_is)
    (case l_law_web => k_is)
    (case c_law_web => k_is)
    (case k_law_web => k_is)
    (case a_read_row => k_is)
    (case l_read_row => k_is)
    (case c_read_row => k_is)
    (case k_read_row => k_is)
    (case a_read_web => k_is)
    (case l_read_web => k_is)
    (case c_read_web => k_is)
    (case k_read_web => k_is)
    (case a_law_read_right => k_is)
    (case l_law_read_right => k_is)
    (case c_law_read_right => k_is)
    (case k_law_read_right => k_is)
    (case a_law_size => k_is)
    (case l_law_size => k_is)
    (case c_law_size => k_is)
    (case k_law_size => k_is)
    (case a_law_right => k_is)
    (case l_law_right => k_is)
    (case c_law_right => k_is)
    (case k_law_right => k_is)
    (case a_law => k_is)
    (case l_law => k_is)
    (case c_law => k_is)
    (case k_law => k_is)
    (case n_Web_bells => k_is)
    (case n_Web_wakes => k_is)
    (case mk_Web => k_is)
    (case kc_Web => k_is)
    (case qn => k_is)
    (case qt => k_is)
    (case qa_Web => k_is)
    (case qm_Web => k_is)
    (case ne_Web => k_is)
    (case z_all => k_is)
    (case z_enumerate => k_is)
    (case z_int => k_is)
    (case z_isinstance => k_is)
    (case z_len => k_is)
    (case z_list => k_is)
    (case z_max => k_is)
    (case z_min => k_is)
    (case z_range => k_is)
    (case z_repr => k_is)
    (case z_sorted => k_is)
    (case z_str => k_is)
    (case z_tuple => k_is)
    (case g_LETTERS => k_is)
    (case g_MOST_BELLS => k_is)
    (case g_MOST_LETTERS => k_is)
