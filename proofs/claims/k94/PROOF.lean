import PyProof.Rows.All
import Wide.All
import OpenK.AllK
import Wide.FinOn
import KE.KStateDown
import HandS.ForMost
import HandS.Deep
import HandS.Defaults
import HandS.More
import HandS.WordsExc
import HandS.Flow
import HandS.IsInst
import HandS.CallSlots
import HandS.TupAny
import HandS.WideBits
import HandS.SortInts
import HandS.Comp
import HandS.Iter
import HandS.Conv
import HandS.Text
import HandS.Strs
import KE.SortData
import HandS.SortKw
import HandS.Rev
import HandS.RevTup
import HandS.TupSets
import HandS.SetFor
import HandS.Head0
import HandS.Head1
import HandS.Head2
import HandS.HeadEnd
import HandS.HeadWalk
import HandS.HeadHook1
import HandS.HeadHook2
import KE.OsArith
import PySem.Challenge.RW_fewrules_k94_parts_and_meets_of_tuples
set_option Elab.async false
set_option linter.all false
set_option maxRecDepth 100000
set_option maxHeartbeats 1000000
/-! Values without a heap: Dt (data that never changes), Sv (what a slot owns), and how a heap bears them. -/
namespace Fw
open PySem PySem.Spec PyProof.Rows L2

inductive Dt where
  | non | bl (b : Bool) | int (i : Int) | str (x : Str)
  | tup (ds : List Dt) | lst (ds : List Dt) | obj (c : Str) (ns : List Str) (ds : List Dt)

inductive Sv where
  | fz (d : Dt)
  | lst (ss : List Sv)
  | ins (c : Str) (ns : List Str) (ss : List Sv)

/-- what is fixed for a whole law: the program, the world, the written part, where each class stands -/
structure Gd where
  P : Program
  w : World
  K : PySem.W.Frag
  C : Str → Addr

abbrev Fp := Addr → Nat

section
variable (G : Gd)
mutual
def RpD (R : Hp) : Dt → V → Prop
  | .non, v => v = .non
  | .bl b, v => v = .bl b
  | .int i, v => v = .int i
  | .str x, v => v = .str x
  | .tup ds, v => ∃ a vs, v = .ref a ∧ SqT G.K R a vs ∧ RpDs R ds vs
  | .lst ds, v => ∃ a vs, v = .ref a ∧ SqL G.K R a vs ∧ RpDs R ds vs
  | .obj c ns ds, v => ∃ a dx vs, v = .ref a ∧ R a = some (.ins (G.C c) dx (ns.zip vs)) ∧ vs.length = ns.length ∧ RpDs R ds vs
def RpDs (R : Hp) : List Dt → List V → Prop
  | [], vs => vs = []
  | d :: ds, vs => ∃ v vr, vs = v :: vr ∧ RpD R d v ∧ RpDs R ds vr
end
mutual
def RpS (R H : Hp) : Sv → V → Fp → Prop
  | .fz d, v, f => RpD G R d v ∧ ∀ b, f b = 0
  | .lst ss, v, f => ∃ a vs g, v = .ref a ∧ H a = some (.lst vs) ∧ RpSs R H ss vs g ∧ ∀ b, f b = (if b = a then 1 else 0) + g b
  | .ins c ns ss, v, f => ∃ a dx vs g, v = .ref a ∧ H a = some (.ins (G.C c) dx (ns.zip vs)) ∧ vs.length = ns.length ∧ RpSs R H ss vs g ∧ ∀ b, f b = (if b = a then 1 else 0) + g b
def RpSs (R H : Hp) : List Sv → List V → Fp → Prop
  | [], vs, f => vs = [] ∧ ∀ b, f b = 0
  | s :: ss, vs, f => ∃ v vr g k, vs = v :: vr ∧ RpS R H s v g ∧ RpSs R H ss vr k ∧ ∀ b, f b = g b + k b
end
abbrev Env := List (Option Sv)
def EnvRp (R H : Hp) : Env → L2.St → Fp → Prop
  | [], σ, f => σ = [] ∧ ∀ b, f b = 0
  | none :: e, σ, f => ∃ x σr, σ = x :: σr ∧ EnvRp R H e σr f
  | some s :: e, σ, f => ∃ v σr g k, σ = some v :: σr ∧ RpS G R H s v g ∧ EnvRp R H e σr k ∧ ∀ b, f b = g b + k b
end

/-! ### wellformed, and how a state goes on -/
structure Wf (R H : Hp) (f : Fp) : Prop where
  sub : Same R H
  one : ∀ a, f a ≤ 1
  off : ∀ a, f a ≠ 0 → R a = none
  on : ∀ a, f a ≠ 0 → H a ≠ none
structure Tr (R H : Hp) (f : Fp) (R' H' : Hp) (f' : Fp) : Prop where
  rs : Same R R'
  keep : ∀ a o, H a = some o → f a = 0 → H' a = some o
  dom : ∀ a, H a ≠ none → H' a ≠ none
  new : ∀ a, f' a ≠ 0 → f a ≠ 0 ∨ H a = none
  newR : ∀ a, R' a ≠ none → R a ≠ none ∨ f a ≠ 0 ∨ H a = none

theorem Tr.refl {R H : Hp} {f : Fp} : Tr R H f R H f := ⟨fun _ _ h => h, fun _ _ h _ => h, fun _ h => h, fun _ h => .inl h, fun _ h => .inl h⟩
theorem Tr.trans {R H R1 H1 R2 H2 : Hp} {f f1 f2 : Fp} (x : Tr R H f R1 H1 f1) (y : Tr R1 H1 f1 R2 H2 f2) : Tr R H f R2 H2 f2 where
  rs := fun a o h => y.rs a o (x.rs a o h)
  keep := fun a o h z => y.keep a o (x.keep a o h z) (by
    by_cases q : f1 a = 0
    · exact q
    · rcases x.new a q with e | e
      · exact absurd z e
      · rw [e] at h; cases h)
  dom := fun a h => y.dom a (x.dom a h)
  new := fun a h => by
    rcases y.new a h with e | e
    · exact x.new a e
    · refine .inr ?_
      cases q : H a with
      | none => rfl
      | some o => exact absurd e (x.dom a (by rw [q]; exact fun z => nomatch z))
  newR := fun a h => by
    rcases y.newR a h with e | e | e
    · exact x.newR a e
    · exact .inr (x.new a e)
    · refine .inr (.inr ?_)
      cases q : H a with
      | none => rfl
      | some o => exact absurd e (x.dom a (by rw [q]; exact fun z => nomatch z))
/-- less may be owned behind -/
theorem Tr.less {R H R' H' : Hp} {f f' g : Fp} (x : Tr R H f R' H' f') (h : ∀ a, g a ≤ f' a) : Tr R H f R' H' g :=
  ⟨x.rs, x.keep, x.dom, fun a e => x.new a (by have := h a; omega), x.newR⟩
theorem Wf.less {R H : Hp} {f g : Fp} (x : Wf R H f) (h : ∀ a, g a ≤ f a) : Wf R H g :=
  ⟨x.sub, fun a => Nat.le_trans (h a) (x.one a), fun a e => x.off a (by have := h a; omega), fun a e => x.on a (by have := h a; omega)⟩
theorem Wf.same {R H : Hp} {f g : Fp} (x : Wf R H f) (h : ∀ a, g a = f a) : Wf R H g := x.less fun a => Nat.le_of_eq (h a)
/-- what is owned by others stays -/
theorem Wf.frame {R H R' H' : Hp} {f f' g : Fp} (w : Wf R H fun a => g a + f a) (w' : Wf R' H' f') (t : Tr R H f R' H' f') : Wf R' H' (fun a => g a + f' a) where
  sub := w'.sub
  one := fun a => by
    have h1 : g a + f a ≤ 1 := w.one a
    have h2 := w'.one a
    show g a + f' a ≤ 1
    by_cases hg : g a = 0
    · omega
    · by_cases hf : f' a = 0
      · omega
      · rcases t.new a hf with e | e
        · omega
        · exact absurd e (w.on a (by show g a + f a ≠ 0; omega))
  off := fun a h => by
    have h : g a + f' a ≠ 0 := h
    by_cases hf : f' a = 0
    · have hg : g a ≠ 0 := by omega
      have h1 : g a + f a ≤ 1 := w.one a
      cases q : R' a with
      | none => rfl
      | some o =>
        rcases t.newR a (by rw [q]; exact fun z => nomatch z) with e | e | e
        · exact absurd (w.off a (by show g a + f a ≠ 0; omega)) e
        · omega
        · exact absurd e (w.on a (by show g a + f a ≠ 0; omega))
    · exact w'.off a hf
  on := fun a h => by
    have h : g a + f' a ≠ 0 := h
    by_cases hf : f' a = 0
    · have hg : g a ≠ 0 := by omega
      exact t.dom a (w.on a (by show g a + f a ≠ 0; omega))
    · exact w'.on a hf
theorem Tr.frame {R H R' H' : Hp} {f f' g : Fp} (t : Tr R H f R' H' f') : Tr R H (fun a => g a + f a) R' H' (fun a => g a + f' a) where
  rs := t.rs
  keep := fun a o h z => t.keep a o h (by have z : g a + f a = 0 := z; omega)
  dom := t.dom
  new := fun a h => by
    have h : g a + f' a ≠ 0 := h
    by_cases hg : g a = 0
    · rcases t.new a (by omega) with e | e
      · exact .inl (by show g a + f a ≠ 0; omega)
      · exact .inr e
    · exact .inl (by show g a + f a ≠ 0; omega)
  newR := fun a h => by
    rcases t.newR a h with e | e | e
    · exact .inl e
    · exact .inr (.inl (by show g a + f a ≠ 0; omega))
    · exact .inr (.inr e)

/-! ### the heap goes on, the values stand -/
section
variable {G : Gd}
theorem sqT_mono {K : PySem.W.Frag} {R R' : Hp} {a : Addr} {xs : List V} (e : Same R R') (h : SqT K R a xs) : SqT K R' a xs := by
  rcases h with (h | ⟨o, h⟩) | h
  · exact .inl (.inl (e _ _ h))
  · exact .inl (.inr ⟨o, e _ _ h⟩)
  · exact .inr h
mutual
theorem RpD.mono {R R' : Hp} (e : Same R R') : ∀ {d : Dt} {v : V}, RpD G R d v → RpD G R' d v
  | .non, _, h => h
  | .bl _, _, h => h
  | .int _, _, h => h
  | .str _, _, h => h
  | .tup _, _, ⟨a, vs, q, h, r⟩ => ⟨a, vs, q, sqT_mono e h, RpDs.mono e r⟩
  | .lst _, _, ⟨a, vs, q, h, r⟩ => ⟨a, vs, q, e.seq h, RpDs.mono e r⟩
  | .obj _ _ _, _, ⟨a, dx, vs, q, h, l, r⟩ => ⟨a, dx, vs, q, e _ _ h, l, RpDs.mono e r⟩
theorem RpDs.mono {R R' : Hp} (e : Same R R') : ∀ {ds : List Dt} {vs : List V}, RpDs G R ds vs → RpDs G R' ds vs
  | [], _, h => h
  | _ :: _, _, ⟨v, vr, q, h, r⟩ => ⟨v, vr, q, RpD.mono e h, RpDs.mono e r⟩
end
mutual
theorem RpS.mono {R H R' H' : Hp} (e : Same R R') : ∀ {s : Sv} {v : V} {f : Fp}, (∀ a o, f a ≠ 0 → H a = some o → H' a = some o) → RpS G R H s v f → RpS G R' H' s v f
  | .fz _, _, _, _, ⟨h, z⟩ => ⟨RpD.mono e h, z⟩
  | .lst _, _, f, k, ⟨a, vs, g, q, h, r, z⟩ => ⟨a, vs, g, q, k a _ (by rw [z, if_pos rfl]; omega) h, RpSs.mono e (fun b o hb => k b o (by rw [z]; omega)) r, z⟩
  | .ins _ _ _, _, f, k, ⟨a, dx, vs, g, q, h, l, r, z⟩ => ⟨a, dx, vs, g, q, k a _ (by rw [z, if_pos rfl]; omega) h, l, RpSs.mono e (fun b o hb => k b o (by rw [z]; omega)) r, z⟩
theorem RpSs.mono {R H R' H' : Hp} (e : Same R R') : ∀ {ss : List Sv} {vs : List V} {f : Fp}, (∀ a o, f a ≠ 0 → H a = some o → H' a = some o) → RpSs G R H ss vs f → RpSs G R' H' ss vs f
  | [], _, _, _, h => h
  | _ :: _, _, f, k, ⟨v, vr, g, l, q, h, r, z⟩ => ⟨v, vr, g, l, q, RpS.mono e (fun b o hb => k b o (by rw [z]; omega)) h, RpSs.mono e (fun b o hb => k b o (by rw [z]; omega)) r, z⟩
end
theorem EnvRp.mono {R H R' H' : Hp} (e : Same R R') : ∀ {env : Env} {σ : L2.St} {f : Fp}, (∀ a o, f a ≠ 0 → H a = some o → H' a = some o) → EnvRp G R H env σ f → EnvRp G R' H' env σ f
  | [], _, _, _, h => h
  | none :: _, _, _, k, ⟨x, σr, q, r⟩ => ⟨x, σr, q, EnvRp.mono e k r⟩
  | some _ :: _, _, f, k, ⟨v, σr, g, l, q, h, r, z⟩ => ⟨v, σr, g, l, q, RpS.mono e (fun b o hb => k b o (by rw [z]; omega)) h, EnvRp.mono e (fun b o hb => k b o (by rw [z]; omega)) r, z⟩
mutual
theorem RpS.eq {R H : Hp} : ∀ {s : Sv} {v : V} {f g : Fp}, (∀ a, g a = f a) → RpS G R H s v f → RpS G R H s v g
  | .fz _, _, _, _, e, ⟨h, z⟩ => ⟨h, fun b => (e b).trans (z b)⟩
  | .lst _, _, _, _, e, ⟨a, vs, g, q, h, r, z⟩ => ⟨a, vs, g, q, h, r, fun b => (e b).trans (z b)⟩
  | .ins _ _ _, _, _, _, e, ⟨a, dx, vs, g, q, h, l, r, z⟩ => ⟨a, dx, vs, g, q, h, l, r, fun b => (e b).trans (z b)⟩
end
theorem RpSs.eq {R H : Hp} : ∀ {s : List Sv} {v : List V} {f g : Fp}, (∀ a, g a = f a) → RpSs G R H s v f → RpSs G R H s v g
  | [], _, _, _, e, ⟨h, z⟩ => ⟨h, fun b => (e b).trans (z b)⟩
  | _ :: _, _, _, _, e, ⟨v, vr, g, k, q, h, r, z⟩ => ⟨v, vr, g, k, q, h, r, fun b => (e b).trans (z b)⟩
theorem EnvRp.eq {R H : Hp} : ∀ {env : Env} {σ : L2.St} {f g : Fp}, (∀ a, g a = f a) → EnvRp G R H env σ f → EnvRp G R H env σ g
  | [], _, _, _, e, ⟨h, z⟩ => ⟨h, fun b => (e b).trans (z b)⟩
  | none :: _, _, _, _, e, ⟨x, σr, q, r⟩ => ⟨x, σr, q, EnvRp.eq e r⟩
  | some _ :: _, _, _, _, e, ⟨v, σr, g, k, q, h, r, z⟩ => ⟨v, σr, g, k, q, h, r, fun b => (e b).trans (z b)⟩
theorem EnvRp.len {R H : Hp} : ∀ {env : Env} {σ : L2.St} {f : Fp}, EnvRp G R H env σ f → env.length = σ.length
  | [], _, _, ⟨h, _⟩ => by rw [h]; rfl
  | none :: _, _, _, ⟨x, σr, q, r⟩ => by rw [q, List.length_cons, List.length_cons, EnvRp.len r]
  | some _ :: _, _, _, ⟨v, σr, g, k, q, h, r, z⟩ => by rw [q, List.length_cons, List.length_cons, EnvRp.len r]
/-- a slot taken out -/
theorem EnvRp.take {R H : Hp} : ∀ {env : Env} {σ : L2.St} {f : Fp} {i : Nat} {s : Sv}, env[i]? = some (some s) → EnvRp G R H env σ f →
    ∃ v g k, σ[i]? = some (some v) ∧ RpS G R H s v g ∧ EnvRp G R H (env.set i none) σ k ∧ ∀ b, f b = g b + k b
  | [], _, _, _, _, e, _ => by simp at e
  | none :: _, _, _, 0, _, e, _ => by simp at e
  | some _ :: _, _, _, 0, _, e, ⟨v, σr, g, k, q, h, r, z⟩ => by
    have e' := Option.some.inj (Option.some.inj e)
    subst e'
    exact ⟨v, g, k, by rw [q]; rfl, h, ⟨some v, σr, q, r⟩, z⟩
  | none :: env, _, f, i + 1, _, e, ⟨x, σr, q, r⟩ => by
    obtain ⟨v, g, k, h1, h2, h3, h4⟩ := EnvRp.take (i := i) (by simpa using e) r
    exact ⟨v, g, k, by rw [q]; simpa using h1, h2, ⟨x, σr, q, h3⟩, h4⟩
  | some _ :: env, _, f, i + 1, _, e, ⟨x, σr, g0, k0, q, h, r, z⟩ => by
    subst q
    obtain ⟨v, g, k, h1, h2, h3, h4⟩ := EnvRp.take (i := i) (by simpa using e) r
    refine ⟨v, g, fun b => g0 b + k b, by simpa using h1, h2, ⟨x, _, g0, k, rfl, h, h3, fun _ => rfl⟩, fun b => ?_⟩
    have := h4 b
    show f b = g b + (g0 b + k b)
    rw [z, h4]
    omega
/-- a slot filled -/
theorem EnvRp.put {R H : Hp} {s : Sv} {v : V} {g : Fp} (hs : RpS G R H s v g) : ∀ {env : Env} {σ : L2.St} {f : Fp} {i : Nat}, i < env.length → EnvRp G R H env σ f →
    ∃ k : Fp, EnvRp G R H (env.set i (some s)) (σ.set i (some v)) (fun b => g b + k b) ∧ ∀ b, k b ≤ f b
  | [], _, _, _, e, _ => by simp at e
  | none :: _, _, f, 0, _, ⟨x, σr, q, r⟩ => by
    subst q
    exact ⟨f, ⟨v, σr, g, f, rfl, hs, r, fun _ => rfl⟩, fun b => Nat.le_refl _⟩
  | some _ :: _, _, f, 0, _, ⟨x, σr, g0, k0, q, h, r, z⟩ => by
    subst q
    exact ⟨k0, ⟨v, σr, g, k0, rfl, hs, r, fun _ => rfl⟩, fun b => by rw [z]; omega⟩
  | none :: env, _, f, i + 1, e, ⟨x, σr, q, r⟩ => by
    subst q
    obtain ⟨k, h1, h2⟩ := EnvRp.put hs (i := i) (by simpa using e) r
    exact ⟨k, ⟨x, _, rfl, h1⟩, h2⟩
  | some _ :: env, _, f, i + 1, e, ⟨x, σr, g0, k0, q, h, r, z⟩ => by
    subst q
    obtain ⟨k, h1, h2⟩ := EnvRp.put hs (i := i) (by simpa using e) r
    refine ⟨fun b => g0 b + k b, ⟨x, _, g0, _, rfl, h, h1, fun b => ?_⟩, fun b => ?_⟩
    · show g b + (g0 b + k b) = g0 b + (g b + k b)
      omega
    · have := h2 b
      show g0 b + k b ≤ f b
      rw [z]
      omega
/-- put back where it was: the slots' values as they stand -/
theorem EnvRp.back {R H : Hp} {s : Sv} {v : V} {g : Fp} (hs : RpS G R H s v g) {env : Env} {σ : L2.St} {f : Fp} {i : Nat} (hv : σ[i]? = some (some v)) (r : EnvRp G R H env σ f) :
    ∃ k : Fp, EnvRp G R H (env.set i (some s)) σ (fun b => g b + k b) ∧ ∀ b, k b ≤ f b := by
  have hi : i < σ.length := (List.getElem?_eq_some_iff.mp hv).1
  obtain ⟨k, h1, h2⟩ := EnvRp.put hs (i := i) (by rw [r.len]; exact hi) r
  rw [show σ.set i (some v) = σ from by
    apply List.ext_getElem?
    intro j
    by_cases e : i = j
    · subst e; rw [List.getElem?_set_self hi, hv]
    · rw [List.getElem?_set_ne e]] at h1
  exact ⟨k, h1, h2⟩
end
end Fw
set_option Elab.async false
set_option linter.all false
set_option maxRecDepth 100000
set_option maxHeartbeats 1000000
/-! The state of a body: what is owned by temporaries and slots; expressions that give values without a heap. -/
namespace Fw
open PySem PySem.Spec PyProof.Rows L2

mutual
@[simp] def Sv.frz : Sv → Dt
  | .fz d => d
  | .lst ss => .lst (frzs ss)
  | .ins c ns ss => .obj c ns (frzs ss)
@[simp] def frzs : List Sv → List Dt
  | [] => []
  | s :: ss => s.frz :: frzs ss
end
/-- an exception: its class, its fields -/
structure Xn where
  c : Str
  ns : List Str
  ds : List Dt
inductive Arg where
  | v (s : Sv)
  | r (i : Nat)
inductive Res (α : Type) where
  | ok (a : α)
  | exc (x : Xn) (e : Env)
  | bad
@[simp] def Res.bind {α β : Type} : Res α → (α → Res β) → Res β
  | .ok a, f => f a
  | .exc x e, _ => .exc x e
  | .bad, _ => .bad
instance : Monad Res where
  pure := Res.ok
  bind := Res.bind
abbrev Ex := Env → Res (Arg × Env)

/-- where a piece of code began -/
structure Zn where
  R : Hp
  H : Hp
  f : Fp
  pin : Nat → Option V
structure Cfg (G : Gd) (Z : Zn) (R H : Hp) (ts : List Sv) (vs : List V) (env : Env) (σ : L2.St) : Prop where
  ex : ∃ ft fe : Fp, RpSs G R H ts vs ft ∧ EnvRp G R H env σ fe ∧ Wf R H (fun b => ft b + fe b) ∧ Tr Z.R Z.H Z.f R H (fun b => ft b + fe b)
  pin : ∀ j v, Z.pin j = some v → σ[j]? = some (some v)

section
variable {G : Gd} {Z : Zn} {R H : Hp} {ts : List Sv} {vs : List V} {env : Env} {σ : L2.St}
theorem Cfg.wf (c : Cfg G Z R H ts vs env σ) : Same R H := let ⟨_, _, _, _, w, _⟩ := c.ex; w.sub
theorem Cfg.len (c : Cfg G Z R H ts vs env σ) : env.length = σ.length := let ⟨_, _, _, e, _⟩ := c.ex; e.len
/-- the temporaries in another order, or fewer -/
theorem Cfg.reord {ts' : List Sv} {vs' : List V} (c : Cfg G Z R H ts vs env σ) (h : ∀ g : Fp, RpSs G R H ts vs g → ∃ g' : Fp, RpSs G R H ts' vs' g' ∧ ∀ b, g' b ≤ g b) : Cfg G Z R H ts' vs' env σ := by
  obtain ⟨⟨ft, fe, h1, h2, w, t⟩, p⟩ := c
  obtain ⟨g', h3, h4⟩ := h ft h1
  have le : ∀ b, g' b + fe b ≤ ft b + fe b := fun b => by have := h4 b; omega
  exact ⟨⟨g', fe, h3, h2, w.less le, t.less le⟩, p⟩
theorem Cfg.pop {s : Sv} {v : V} (c : Cfg G Z R H (s :: ts) (v :: vs) env σ) : Cfg G Z R H ts vs env σ := c.reord fun g h => by
  obtain ⟨v', vr, g1, k, e, _, h2, z⟩ := h
  cases e
  exact ⟨k, h2, fun b => by rw [z]; omega⟩
theorem Cfg.pop2 {s s' : Sv} {v v' : V} (c : Cfg G Z R H (s :: s' :: ts) (v :: v' :: vs) env σ) : Cfg G Z R H ts vs env σ := c.pop.pop
theorem Cfg.topS {s : Sv} {v : V} (c : Cfg G Z R H (s :: ts) (v :: vs) env σ) : ∃ f, RpS G R H s v f := by
  obtain ⟨_, _, ⟨v', vr, g1, k, e, h1, _, _⟩, _⟩ := c.ex
  cases e
  exact ⟨g1, h1⟩
theorem Cfg.top {d : Dt} {v : V} (c : Cfg G Z R H (.fz d :: ts) (v :: vs) env σ) : RpD G R d v := let ⟨_, h⟩ := c.topS; h.1
theorem Cfg.top2 {s : Sv} {v' : V} {d : Dt} {v : V} (c : Cfg G Z R H (s :: .fz d :: ts) (v' :: v :: vs) env σ) : RpD G R d v := c.pop.top
theorem Cfg.push {d : Dt} {v : V} (c : Cfg G Z R H ts vs env σ) (h : RpD G R d v) : Cfg G Z R H (.fz d :: ts) (v :: vs) env σ := c.reord fun g r =>
  ⟨g, ⟨v, vs, fun _ => 0, g, rfl, ⟨h, fun _ => rfl⟩, r, fun b => (Nat.zero_add _).symm⟩, fun _ => Nat.le_refl _⟩
theorem Cfg.free0 {p : Addr} (c : Cfg G Z R H ts vs env σ) (hp : H p = none) : R p = none ∧ Z.H p = none := by
  obtain ⟨_, _, _, _, w, t⟩ := c.ex
  refine ⟨w.sub.free hp, ?_⟩
  cases q : Z.H p with
  | none => rfl
  | some o => exact absurd hp (t.dom p (by rw [q]; exact fun z => nomatch z))
/-- a new frozen object -/
theorem Cfg.grow {p : Addr} (o : HO) (c : Cfg G Z R H ts vs env σ) (hp : H p = none) : Cfg G Z (upd R p o) (upd H p o) ts vs env σ ∧ Same R (upd R p o) := by
  obtain ⟨rp, zp⟩ := c.free0 hp
  obtain ⟨⟨ft, fe, h1, h2, w, t⟩, pn⟩ := c
  have sR : Same R (upd R p o) := fun b u e => by rw [upd_ne (ne_of_none e rp)]; exact e
  have sH : Same H (upd H p o) := fun b u e => by rw [upd_ne (ne_of_none e hp)]; exact e
  have np : ∀ a, ft a + fe a ≠ 0 → a ≠ p := fun a h z => by subst z; exact w.on a h hp
  refine ⟨⟨⟨ft, fe, h1.mono sR fun a u _ e => sH a u e, h2.mono sR fun a u _ e => sH a u e, ⟨fun b u e => ?_, w.one, fun a h => ?_, fun a h => ?_⟩, ⟨fun a u e => sR a u (t.rs a u e), fun a u e z => sH a u (t.keep a u e z), fun a h => ?_, t.new, fun a h => ?_⟩⟩, pn⟩, sR⟩
  · by_cases hb : b = p
    · subst hb; rw [upd_same] at e ⊢; exact e
    · rw [upd_ne hb] at e ⊢; exact w.sub b u e
  · rw [upd_ne (np a h)]; exact w.off a h
  · rw [upd_ne (np a h)]; exact w.on a h
  · have := t.dom a h
    by_cases hb : a = p
    · subst hb; rw [upd_same]; exact fun z => nomatch z
    · rw [upd_ne hb]; exact this
  · by_cases hb : a = p
    · subst hb; exact .inr (.inr zp)
    · rw [upd_ne hb] at h; exact t.newR a h
theorem RpSs.split {R H : Hp} : ∀ {ss ts : List Sv} {ws : List V} {g : Fp}, RpSs G R H (ss ++ ts) ws g → ∃ w1 w2 g1 g2, ws = w1 ++ w2 ∧ RpSs G R H ss w1 g1 ∧ RpSs G R H ts w2 g2 ∧ ∀ b, g b = g1 b + g2 b
  | [], ts, ws, g, h => ⟨[], ws, fun _ => 0, g, rfl, ⟨rfl, fun _ => rfl⟩, h, fun b => (Nat.zero_add _).symm⟩
  | s :: ss, ts, ws, g, ⟨v, vr, g0, k, e, h, r, z⟩ => by
    obtain ⟨w1, w2, g1, g2, e2, h1, h2, z2⟩ := RpSs.split r
    refine ⟨v :: w1, w2, fun b => g0 b + g1 b, g2, by rw [e, e2]; rfl, ⟨v, w1, g0, g1, rfl, h, h1, fun _ => rfl⟩, h2, fun b => ?_⟩
    have := z2 b
    rw [z]
    show g0 b + k b = g0 b + g1 b + g2 b
    omega
theorem RpSs.len {R H : Hp} : ∀ {ss : List Sv} {ws : List V} {g : Fp}, RpSs G R H ss ws g → ss.length = ws.length
  | [], _, _, ⟨e, _⟩ => by rw [e]; rfl
  | _ :: _, _, _, ⟨v, vr, g0, k, e, h, r, z⟩ => by rw [e, List.length_cons, List.length_cons, RpSs.len r]
theorem RpSs.join {R H : Hp} {ts : List Sv} {w2 : List V} {g2 : Fp} (h2 : RpSs G R H ts w2 g2) : ∀ {ss : List Sv} {w1 : List V} {g1 : Fp}, RpSs G R H ss w1 g1 → RpSs G R H (ss ++ ts) (w1 ++ w2) (fun b => g1 b + g2 b)
  | [], _, _, ⟨e, z⟩ => by
    subst e
    exact h2.eq fun b => by show _ + _ = _; rw [z]; omega
  | s :: ss, _, _, ⟨v, vr, g0, k, e, h, r, z⟩ => by
    subst e
    refine ⟨v, vr ++ w2, g0, fun b => k b + g2 b, rfl, h, RpSs.join h2 r, fun b => ?_⟩
    have := z b
    show _ + g2 b = g0 b + (k b + g2 b)
    omega
/-- with values of known lengths -/
theorem RpSs.split' {R H : Hp} {ss ts : List Sv} {w1 w2 : List V} {g : Fp} (hl : ss.length = w1.length) (h : RpSs G R H (ss ++ ts) (w1 ++ w2) g) : ∃ g1 g2, RpSs G R H ss w1 g1 ∧ RpSs G R H ts w2 g2 ∧ ∀ b, g b = g1 b + g2 b := by
  obtain ⟨x1, x2, g1, g2, e, h1, h2, z⟩ := h.split
  obtain ⟨e1, e2⟩ := List.append_inj e (by rw [← hl]; exact h1.len)
  subst e1 e2
  exact ⟨g1, g2, h1, h2, z⟩
/-- a new list of one's own -/
theorem Cfg.newLst {p : Addr} {ss : List Sv} {ws : List V} (hl : ss.length = ws.length) (c : Cfg G Z R H (ss ++ ts) (ws ++ vs) env σ) (hp : H p = none) : Cfg G Z R (upd H p (.lst ws)) (.lst ss :: ts) (.ref p :: vs) env σ := by
  obtain ⟨rp, zp⟩ := c.free0 hp
  obtain ⟨⟨ft, fe, h1, h2, w, t⟩, pn⟩ := c
  obtain ⟨g1, g2, h3, h4, z⟩ := RpSs.split' hl h1
  have sH : Same H (upd H p (.lst ws)) := fun b u e => by rw [upd_ne (ne_of_none e hp)]; exact e
  have np : ft p + fe p = 0 := by
    by_cases q : ft p + fe p = 0
    · exact q
    · exact absurd hp (w.on p q)
  have one : ∀ b, (if b = p then 1 else 0) + g1 b + g2 b + fe b ≤ 1 := fun b => by
    have : ft b + fe b ≤ 1 := w.one b
    have zb := z b
    by_cases e : b = p
    · subst e; rw [if_pos rfl]; omega
    · rw [if_neg e]; omega
  refine ⟨⟨fun b => (if b = p then 1 else 0) + g1 b + g2 b, fe, ⟨.ref p, vs, fun b => (if b = p then 1 else 0) + g1 b, g2, rfl, ⟨p, ws, g1, rfl, upd_same, h3.mono (Same.refl R) fun a u _ e => sH a u e, fun _ => rfl⟩, h4.mono (Same.refl R) fun a u _ e => sH a u e, fun _ => rfl⟩, h2.mono (Same.refl R) fun a u _ e => sH a u e,
    ⟨fun b u e => sH b u (w.sub b u e), one, fun a h => ?_, fun a h => ?_⟩, ⟨t.rs, fun a u e z => sH a u (t.keep a u e z), fun a h => ?_, fun a h => ?_, t.newR⟩⟩, pn⟩
  · by_cases e : a = p
    · subst e; exact rp
    · exact w.off a (by have := z a; simp only [if_neg e] at h; show ft a + fe a ≠ 0; omega)
  · by_cases e : a = p
    · subst e; rw [upd_same]; exact fun z => nomatch z
    · rw [upd_ne e]; exact w.on a (by have := z a; simp only [if_neg e] at h; show ft a + fe a ≠ 0; omega)
  · have := t.dom a h
    by_cases e : a = p
    · subst e; rw [upd_same]; exact fun z => nomatch z
    · rw [upd_ne e]; exact this
  · by_cases e : a = p
    · subst e; exact .inr zp
    · exact t.new a (by have := z a; simp only [if_neg e] at h; show ft a + fe a ≠ 0; omega)
mutual
theorem RpS.frz {R H R' : Hp} (e : Same R R') : ∀ {s : Sv} {v : V} {f : Fp}, (∀ a, f a ≠ 0 → R' a = H a) → RpS G R H s v f → RpD G R' s.frz v
  | .fz _, _, _, _, ⟨h, _⟩ => h.mono e
  | .lst _, _, f, k, ⟨a, vs, g, q, h, r, z⟩ => ⟨a, vs, q, .inl (.inl ((k a (by rw [z, if_pos rfl]; omega)).trans h)), RpSs.frz e (fun b hb => k b (by rw [z]; omega)) r⟩
  | .ins _ _ _, _, f, k, ⟨a, dx, vs, g, q, h, l, r, z⟩ => ⟨a, dx, vs, q, (k a (by rw [z, if_pos rfl]; omega)).trans h, l, RpSs.frz e (fun b hb => k b (by rw [z]; omega)) r⟩
theorem RpSs.frz {R H R' : Hp} (e : Same R R') : ∀ {ss : List Sv} {vs : List V} {f : Fp}, (∀ a, f a ≠ 0 → R' a = H a) → RpSs G R H ss vs f → RpDs G R' (frzs ss) vs
  | [], _, _, _, ⟨h, _⟩ => h
  | _ :: _, _, f, k, ⟨v, vr, g, l, q, h, r, z⟩ => ⟨v, vr, q, RpS.frz e (fun b hb => k b (by rw [z]; omega)) h, RpSs.frz e (fun b hb => k b (by rw [z]; omega)) r⟩
end
open Classical in
/-- the top is frozen -/
theorem Cfg.freeze {s : Sv} {v : V} (c : Cfg G Z R H (s :: ts) (v :: vs) env σ) : ∃ R', Same R R' ∧ Cfg G Z R' H (.fz s.frz :: ts) (v :: vs) env σ := by
  obtain ⟨⟨ft, fe, ⟨v', vr, g, k, e, h1, h1', z⟩, h2, w, t⟩, pn⟩ := c
  cases e
  have gz : ∀ a, g a ≠ 0 → R a = none := fun a h => w.off a (by show ft a + fe a ≠ 0; rw [z]; omega)
  have sR : Same R (fun a => if g a ≠ 0 then H a else R a) := fun b u e => by
    show (if g b ≠ 0 then H b else R b) = some u
    by_cases q : g b = 0
    · rw [if_neg (by omega)]; exact e
    · rw [gz b q] at e; cases e
  have gk : ∀ a, g a ≠ 0 → k a = 0 ∧ fe a = 0 := fun a h => by
    have : ft a + fe a ≤ 1 := w.one a
    rw [z] at this
    omega
  refine ⟨_, sR, ⟨k, fe, ⟨v, vs, fun _ => 0, k, rfl, ⟨h1.frz sR fun a h => if_pos h, fun _ => rfl⟩, h1'.mono sR fun _ _ _ e => e, fun b => (Nat.zero_add _).symm⟩, h2.mono sR fun _ _ _ e => e, ⟨fun b u e => ?_, fun a => ?_, fun a h => ?_, fun a h => ?_⟩, ⟨fun a u e => sR a u (t.rs a u e), t.keep, t.dom, fun a h => ?_, fun a h => ?_⟩⟩, pn⟩
  · have e : (if g b ≠ 0 then H b else R b) = some u := e
    by_cases q : g b = 0
    · rw [if_neg (by omega)] at e; exact w.sub b u e
    · rw [if_pos q] at e; exact e
  · have : ft a + fe a ≤ 1 := w.one a
    rw [z] at this
    show k a + fe a ≤ 1
    omega
  · show (if g a ≠ 0 then H a else R a) = none
    have h : k a + fe a ≠ 0 := h
    by_cases q : g a = 0
    · rw [if_neg (by omega)]; exact w.off a (by show ft a + fe a ≠ 0; rw [z]; omega)
    · have := gk a q; omega
  · have h : k a + fe a ≠ 0 := h
    exact w.on a (by show ft a + fe a ≠ 0; rw [z]; omega)
  · have h : k a + fe a ≠ 0 := h
    exact t.new a (by show ft a + fe a ≠ 0; rw [z]; omega)
  · have h : (if g a ≠ 0 then H a else R a) ≠ none := h
    by_cases q : g a = 0
    · rw [if_neg (by omega)] at h; exact t.newR a h
    · exact .inr (t.new a (by show ft a + fe a ≠ 0; rw [z]; omega))
/-- a slot's content as a temporary -/
theorem Cfg.take {i : Nat} {s : Sv} (c : Cfg G Z R H ts vs env σ) (h : env[i]? = some (some s)) : ∃ v, σ[i]? = some (some v) ∧ Cfg G Z R H (s :: ts) (v :: vs) (env.set i none) σ := by
  obtain ⟨⟨ft, fe, h1, h2, w, t⟩, pn⟩ := c
  obtain ⟨v, g, k, e, h3, h4, z⟩ := h2.take h
  have eq : ∀ b, g b + ft b + k b = ft b + fe b := fun b => by rw [z]; omega
  exact ⟨v, e, ⟨fun b => g b + ft b, k, ⟨v, vs, g, ft, rfl, h3, h1, fun _ => rfl⟩, h4, w.same eq, t.less fun b => Nat.le_of_eq (eq b)⟩, pn⟩
/-- put back -/
theorem Cfg.back {i : Nat} {s : Sv} {v : V} (c : Cfg G Z R H (s :: ts) (v :: vs) env σ) (h : σ[i]? = some (some v)) : Cfg G Z R H ts vs (env.set i (some s)) σ := by
  obtain ⟨⟨ft, fe, ⟨v', vr, g, k, e, h1, h1', z⟩, h2, w, t⟩, pn⟩ := c
  cases e
  obtain ⟨k', h3, h4⟩ := EnvRp.back h1 h h2
  have le : ∀ b, k b + (g b + k' b) ≤ ft b + fe b := fun b => by
    have := h4 b
    rw [z]
    omega
  exact ⟨⟨k, _, h1', h3, w.less le, t.less le⟩, pn⟩
/-- stored -/
theorem Cfg.store {i : Nat} {s : Sv} {v : V} (c : Cfg G Z R H (s :: ts) (v :: vs) env σ) (h : i < env.length) (hp : Z.pin i = none) : Cfg G Z R H ts vs (env.set i (some s)) (σ.set i (some v)) := by
  obtain ⟨⟨ft, fe, ⟨v', vr, g, k, e, h1, h1', z⟩, h2, w, t⟩, pn⟩ := c
  cases e
  obtain ⟨k', h3, h4⟩ := EnvRp.put h1 h h2
  have le : ∀ b, k b + (g b + k' b) ≤ ft b + fe b := fun b => by
    have := h4 b
    rw [z]
    omega
  refine ⟨⟨k, _, h1', h3, w.less le, t.less le⟩, fun j u e => ?_⟩
  have ne : i ≠ j := fun z => by subst z; rw [hp] at e; cases e
  rw [List.getElem?_set_ne ne]
  exact pn j u e
theorem Cfg.slot {i : Nat} {d : Dt} (c : Cfg G Z R H ts vs env σ) (h : env[i]? = some (some (.fz d))) : ∃ v, σ[i]? = some (some v) ∧ RpD G R d v := by
  obtain ⟨v, e, c'⟩ := c.take h
  exact ⟨v, e, c'.top⟩
/-- the list on top is written -/
theorem Cfg.write {es : List Sv} {evs : List V} {ss : List Sv} {a : Addr} (hl : es.length = evs.length) (c : Cfg G Z R H (es ++ .lst ss :: ts) (evs ++ .ref a :: vs) env σ) :
    ∃ ws, H a = some (.lst ws) ∧ ws.length = ss.length ∧ ∀ es' evs' ss' ws', (∀ H' g, RpSs G R H' (es ++ ss) (evs ++ ws) g → ∃ g1 g2 : Fp, RpSs G R H' es' evs' g1 ∧ RpSs G R H' ss' ws' g2 ∧ ∀ b, g1 b + g2 b ≤ g b) →
      Cfg G Z R (upd H a (.lst ws')) (es' ++ .lst ss' :: ts) (evs' ++ .ref a :: vs) env σ := by
  obtain ⟨⟨ft, fe, h1, h2, w, t⟩, pn⟩ := c
  obtain ⟨g1, g2, h3, ⟨v0, vr, g3, g4, e0, ⟨a', ws, g5, e1, ha, hs, z5⟩, h4, z4⟩, z⟩ := RpSs.split' hl h1
  cases e0
  cases e1
  refine ⟨ws, ha, hs.len.symm, fun es' evs' ss' ws' hr => ?_⟩
  have tot : ∀ b, ft b + fe b = g1 b + ((if b = a then 1 else 0) + g5 b) + g4 b + fe b := fun b => by
    have q1 := z b
    have q2 := z4 b
    have q3 := z5 b
    omega
  have fa : g1 a = 0 ∧ g5 a = 0 ∧ g4 a = 0 ∧ fe a = 0 := by
    have : ft a + fe a ≤ 1 := w.one a
    rw [tot a, if_pos rfl] at this
    omega
  have kp : ∀ b o, b ≠ a → H b = some o → upd H a (.lst ws') b = some o := fun b o n e => by rw [upd_ne n]; exact e
  have h3' := h3.mono (H' := upd H a (.lst ws')) (Same.refl R) fun b o q e => kp b o (fun z => by subst z; exact q fa.1) e
  have hs' := hs.mono (H' := upd H a (.lst ws')) (Same.refl R) fun b o q e => kp b o (fun z => by subst z; exact q fa.2.1) e
  have h4' := h4.mono (H' := upd H a (.lst ws')) (Same.refl R) fun b o q e => kp b o (fun z => by subst z; exact q fa.2.2.1) e
  have h2' := h2.mono (H' := upd H a (.lst ws')) (Same.refl R) fun b o q e => kp b o (fun z => by subst z; exact q fa.2.2.2) e
  obtain ⟨r1, r2, k1, k2, zr⟩ := hr _ _ (RpSs.join hs' h3')
  have le : ∀ b, r1 b + ((if b = a then 1 else 0) + r2 b + g4 b) + fe b ≤ ft b + fe b := fun b => by
    have := zr b
    rw [tot b]
    omega
  have nR : R a = none := w.off a (by show ft a + fe a ≠ 0; rw [tot a, if_pos rfl]; omega)
  have k3 : RpSs G R (upd H a (.lst ws')) (.lst ss' :: ts) (.ref a :: vs) (fun b => (if b = a then 1 else 0) + r2 b + g4 b) :=
    ⟨.ref a, vs, fun b => (if b = a then 1 else 0) + r2 b, g4, rfl, ⟨a, ws', r2, rfl, upd_same, k2, fun _ => rfl⟩, h4', fun _ => rfl⟩
  have w' := w.less le
  have t' := t.less le
  refine ⟨⟨_, fe, RpSs.join k3 k1, h2', ⟨fun b o e => ?_, w'.one, w'.off, fun b h => ?_⟩, ⟨t'.rs, fun b o e q => ?_, fun b h => ?_, t'.new, t'.newR⟩⟩, pn⟩
  · exact kp b o (fun z => by subst z; rw [nR] at e; cases e) (w.sub b o e)
  · by_cases q : b = a
    · subst q; rw [upd_same]; exact fun z => nomatch z
    · rw [upd_ne q]; exact w'.on b h
  · refine kp b o (fun z => ?_) (t.keep b o e q)
    subst z
    rcases t.new b (by show ft b + fe b ≠ 0; rw [tot b, if_pos rfl]; omega) with x | x
    · exact x q
    · rw [x] at e; cases e
  · by_cases q : b = a
    · subst q; rw [upd_same]; exact fun z => nomatch z
    · rw [upd_ne q]; exact t.dom b h
/-- a new beginning for the code within -/
theorem Cfg.rebase (c : Cfg G Z R H ts vs env σ) : ∃ ft fe : Fp, RpSs G R H ts vs ft ∧ Cfg G ⟨R, H, fe, Z.pin⟩ R H [] [] env σ ∧
    ∀ {R' H' ts' vs' env' σ'}, Cfg G ⟨R, H, fe, Z.pin⟩ R' H' ts' vs' env' σ' → Cfg G Z R' H' (ts' ++ ts) (vs' ++ vs) env' σ' ∧ Same R R' ∧ ∀ a o, ft a ≠ 0 → H a = some o → H' a = some o := by
  obtain ⟨⟨ft, fe, h1, h2, w, t⟩, pn⟩ := c
  refine ⟨ft, fe, h1, ⟨⟨fun _ => 0, fe, ⟨rfl, fun _ => rfl⟩, h2, w.less fun b => by show 0 + fe b ≤ _; omega, Tr.refl.less fun b => by show 0 + fe b ≤ fe b; omega⟩, pn⟩, ?_⟩
  rintro R' H' ts' vs' env' σ' ⟨⟨ft', fe', k1, k2, w', t'⟩, pn'⟩
  have keep : ∀ a o, ft a ≠ 0 → H a = some o → H' a = some o := fun a o h e => t'.keep a o e (by
    have : ft a + fe a ≤ 1 := w.one a
    show fe a = 0
    omega)
  have eq : ∀ b, ft' b + ft b + fe' b = ft b + (ft' b + fe' b) := fun b => by omega
  refine ⟨⟨⟨fun b => ft' b + ft b, fe', RpSs.join (h1.mono t'.rs keep) k1, k2, (w.frame w' t').same eq, ((t.trans (Tr.frame (g := ft) t')).less fun b => Nat.le_of_eq (eq b))⟩, pn'⟩, t'.rs, keep⟩
end
end Fw
set_option Elab.async false
set_option linter.all false
set_option maxRecDepth 100000
set_option maxHeartbeats 1000000
/-! Judgements: an expression, a test, an argument list, a statement as a function on environments. -/
namespace Fw
open PySem PySem.Spec PyProof.Rows L2

abbrev gd (X : Cx) (C : Str → Addr) : Gd := ⟨X.prog, X.w, X.K, C⟩

/-- an exception's class and fields, as the handlers see it -/
def XRp (G : Gd) (R : Hp) (x : Xn) (c : Value) (d : Option Addr) : Prop :=
  c = .ref (G.C x.c) ∧ ∃ dx vs, d = some dx ∧ R dx = some (.xd (x.ns.zip vs)) ∧ vs.length = x.ns.length ∧ RpDs G R x.ds vs

/-! ### readings -/
def ArgC (G : Gd) (Z : Zn) (R H : Hp) (a : Arg) (v : V) (ts : List Sv) (vs : List V) (env : Env) (σ : L2.St) : Prop :=
  match a with
  | .v s => Cfg G Z R H (s :: ts) (v :: vs) env σ
  | .r i => σ[i]? = some (some v) ∧ Cfg G Z R H ts vs env σ
/-- what is wanted where an exception leaves -/
def ExW (G : Gd) (Z : Zn) (W : WX) (x : Xn) (env : Env) (σ : L2.St) : Prop := ∀ c d R' H', XRp G R' x c d → Cfg G Z R' H' [] [] env σ → W c d σ H'
def Out (G : Gd) (Z : Zn) (W : WX) (ts : List Sv) (vs : List V) (σ : L2.St) (Q : VK) : Res (Arg × Env) → Prop
  | .ok (a, e) => ∀ v R' H', ArgC G Z R' H' a v ts vs e σ → Q v H'
  | .exc x e => ExW G Z W x e σ
  | .bad => False
def ER (G : Gd) (Z : Zn) (W : WX) (f : Ex) : TE := fun σ H Q => ∃ R ts vs env, Cfg G Z R H ts vs env σ ∧ Out G Z W ts vs σ Q (f env)
def OutT (G : Gd) (Z : Zn) (W : WX) (ts : List Sv) (vs : List V) (σ : L2.St) (Q : Bool → Hp → Prop) : Res (Bool × Env) → Prop
  | .ok (b, e) => ∀ R' H', Cfg G Z R' H' ts vs e σ → Q b H'
  | .exc x e => ExW G Z W x e σ
  | .bad => False
def TTR (G : Gd) (Z : Zn) (W : WX) (f : Env → Res (Bool × Env)) : TT := fun σ H Q => ∃ R ts vs env, Cfg G Z R H ts vs env σ ∧ OutT G Z W ts vs σ Q (f env)
/-- arguments: which of their values are temporaries -/
inductive Tmp (σ : L2.St) : List Arg → List V → List Sv → List V → Prop
  | nil : Tmp σ [] [] [] []
  | v {as ws ss tw s w} : Tmp σ as ws ss tw → Tmp σ (.v s :: as) (w :: ws) (s :: ss) (w :: tw)
  | r {as ws ss tw i w} : σ[i]? = some (some w) → Tmp σ as ws ss tw → Tmp σ (.r i :: as) (w :: ws) ss tw
def ArgsC (G : Gd) (Z : Zn) (R H : Hp) (as : List Arg) (ws : List V) (ts : List Sv) (vs : List V) (env : Env) (σ : L2.St) : Prop :=
  ∃ ss tw, Tmp σ as ws ss tw ∧ Cfg G Z R H (ss ++ ts) (tw ++ vs) env σ
def OutA (G : Gd) (Z : Zn) (W : WX) (ts : List Sv) (vs : List V) (σ : L2.St) (Q : List V → Hp → Prop) : Res (List Arg × Env) → Prop
  | .ok (as, e) => ∀ ws R' H', ArgsC G Z R' H' as ws ts vs e σ → Q ws H'
  | .exc x e => ExW G Z W x e σ
  | .bad => False
def AR (G : Gd) (Z : Zn) (W : WX) (f : Env → Res (List Arg × Env)) : TA := fun σ H Q => ∃ R ts vs env, Cfg G Z R H ts vs env σ ∧ OutA G Z W ts vs σ Q (f env)
inductive SRes where
  | next (e : Env)
  | ret (s : Sv) (e : Env)
  | brk (e : Env)
  | cnt (e : Env)
  | exc (x : Xn) (e : Env)
  | bad
abbrev Stx := Env → SRes
def OutS (G : Gd) (Z : Zn) (W : WX) (D : Ends) : SRes → Prop
  | .next e => ∀ σ' R' H', Cfg G Z R' H' [] [] e σ' → D.nx σ' H'
  | .ret s e => ∀ σ' v R' H', Cfg G Z R' H' [s] [v] e σ' → D.rt v H'
  | .brk e => ∀ σ' R' H', Cfg G Z R' H' [] [] e σ' → D.bk σ' H'
  | .cnt e => ∀ σ' R' H', Cfg G Z R' H' [] [] e σ' → D.ct σ' H'
  | .exc x e => ∀ σ', ExW G Z W x e σ'
  | .bad => False
def SR (G : Gd) (Z : Zn) (W : WX) (f : Stx) : TS := fun D σ H => ∃ R env, Cfg G Z R H [] [] env σ ∧ OutS G Z W D (f env)

structure VE (C : Str → Addr) (X : Cx) (W : WX) (e : Expr) (f : Ex) : Prop where
  run : ∀ Z, PE X e (ER (gd X C) Z W f)
structure VT (C : Str → Addr) (X : Cx) (W : WX) (e : Expr) (f : Env → Res (Bool × Env)) : Prop where
  run : ∀ Z, PT X e (TTR (gd X C) Z W f)
structure VW (C : Str → Addr) (X : Cx) (W : WX) (e : Expr) (f : Env → Res (Bool × Env)) : Prop where
  run : ∀ Z, PW X e (TTR (gd X C) Z W f)
structure VA (C : Str → Addr) (X : Cx) (W : WX) (es : List Expr) (f : Env → Res (List Arg × Env)) : Prop where
  run : ∀ Z, PA X es (AR (gd X C) Z W f)
/-- P: the slots that are never stored into -/
def Pinned (Z : Zn) (P : List Bool) : Prop := ∀ j, P.getD j false = false → Z.pin j = none
structure VS (C : Str → Addr) (X : Cx) (W : WX) (P : List Bool) (st : Stmt) (f : Stx) : Prop where
  run : ∀ Z, Pinned Z P → PS X st (SR (gd X C) Z W f)
structure VB (C : Str → Addr) (X : Cx) (W : WX) (P : List Bool) (st : List Stmt) (f : Stx) : Prop where
  run : ∀ Z, Pinned Z P → PSs X st (SR (gd X C) Z W f)

section
variable {X : Cx}
theorem pe_imp {e : Expr} {t t' : TE} (h : PE X e t) (i : ∀ σ H Q, t' σ H Q → t σ H Q) : PE X e t' := ⟨fun pins s σ H Q I q => h.run pins s σ H Q I (i σ H Q q)⟩
theorem pt_imp {e : Expr} {t t' : TT} (h : PT X e t) (i : ∀ σ H Q, t' σ H Q → t σ H Q) : PT X e t' := ⟨fun pins s σ H Q I q => h.run pins s σ H Q I (i σ H Q q)⟩
theorem pw_imp {e : Expr} {t t' : TT} (h : PW X e t) (i : ∀ σ H Q, t' σ H Q → t σ H Q) : PW X e t' := ⟨fun wh pins s σ H Q I q => h.run wh pins s σ H Q I (i σ H Q q)⟩
theorem pa_imp {es : List Expr} {t t' : TA} (h : PA X es t) (i : ∀ σ H Q, t' σ H Q → t σ H Q) : PA X es t' := ⟨fun pos pins s σ H Q I q => h.run pos pins s σ H Q I (i σ H Q q)⟩
theorem ps_imp {st : Stmt} {t t' : TS} (h : PS X st t) (i : ∀ D σ H, t' D σ H → t D σ H) : PS X st t' := ⟨fun pins s σ H D I q => h.run pins s σ H D I (i D σ H q)⟩
theorem pss_imp {st : List Stmt} {t t' : TS} (h : PSs X st t) (i : ∀ D σ H, t' D σ H → t D σ H) : PSs X st t' := ⟨fun pins s σ H D I q => h.run pins s σ H D I (i D σ H q)⟩
end

/-! ### taking the arguments -/
@[simp] def takeA : List Arg → Env → Option (List Sv × Env)
  | [], env => some ([], env)
  | .v s :: as, env => (takeA as env).bind fun p => some (s :: p.1, p.2)
  | .r i :: as, env => match env[i]? with
    | some (some s) => (takeA as (env.set i none)).bind fun p => some (s :: p.1, p.2)
    | _ => none
@[simp] def putA : List Arg → Env → Env → Env
  | .v _ :: as, _ :: os, env => putA as os env
  | .r i :: as, o :: os, env => putA as os (env.set i o)
  | _, _, env => env

section
variable {G : Gd} {Z : Zn} {R H : Hp} {ts : List Sv} {vs : List V} {env : Env} {σ : L2.St}
/-- the top goes behind others -/
theorem Cfg.under {s : Sv} {v : V} {ss : List Sv} {ws : List V} (hl : ss.length = ws.length) (c : Cfg G Z R H (s :: (ss ++ ts)) (v :: (ws ++ vs)) env σ) : Cfg G Z R H (ss ++ s :: ts) (ws ++ v :: vs) env σ := c.reord fun g h => by
  obtain ⟨v', vr, g1, k, e, h1, h2, z⟩ := h
  cases e
  obtain ⟨k1, k2, h3, h4, z2⟩ := RpSs.split' hl h2
  have h5 : RpSs G R H (s :: ts) (v :: vs) (fun b => g1 b + k2 b) := ⟨v, vs, g1, k2, rfl, h1, h4, fun _ => rfl⟩
  refine ⟨_, RpSs.join h5 h3, fun b => ?_⟩
  have := z b
  have := z2 b
  show k1 b + (g1 b + k2 b) ≤ g b
  omega
theorem Cfg.over {s : Sv} {v : V} {ss : List Sv} {ws : List V} (hl : ss.length = ws.length) (c : Cfg G Z R H (ss ++ s :: ts) (ws ++ v :: vs) env σ) : Cfg G Z R H (s :: (ss ++ ts)) (v :: (ws ++ vs)) env σ := c.reord fun g h => by
  obtain ⟨k1, k2, h3, ⟨v', vr, g1, k, e, h1, h2, z⟩, z2⟩ := RpSs.split' hl h
  cases e
  refine ⟨_, ⟨v, _, g1, _, rfl, h1, RpSs.join h2 h3, fun _ => rfl⟩, fun b => ?_⟩
  have := z b
  have := z2 b
  show g1 b + (k1 b + k b) ≤ g b
  omega
theorem Tmp.len {as : List Arg} {ws : List V} {ss : List Sv} {tw : List V} (t : Tmp σ as ws ss tw) : ss.length = tw.length := by
  induction t with
  | nil => rfl
  | v _ ih => rw [List.length_cons, List.length_cons, ih]
  | r _ _ ih => exact ih
theorem take_all {as : List Arg} {ws : List V} {ss : List Sv} {tw : List V} (t : Tmp σ as ws ss tw) : ∀ {ts : List Sv} {vs : List V} {env env' : Env} {out : List Sv}, takeA as env = some (out, env') → Cfg G Z R H (ss ++ ts) (tw ++ vs) env σ →
    Cfg G Z R H (out ++ ts) (ws ++ vs) env' σ ∧ out.length = ws.length := by
  induction t with
  | nil =>
    intro ts vs env env' out h c
    cases h
    exact ⟨c, rfl⟩
  | @v as ws ss tw s w t ih =>
    intro ts vs env env' out h c
    simp only [takeA] at h
    cases q : takeA as env with
    | some p =>
      rw [q] at h
      cases h
      obtain ⟨c2, l⟩ := ih q (Cfg.under t.len c)
      exact ⟨Cfg.over l c2, by rw [List.length_cons, List.length_cons, l]⟩
    | none => rw [q] at h; cases h
  | @r as ws ss tw i w hi t ih =>
    intro ts vs env env' out h c
    simp only [takeA] at h
    split at h
    · rename_i s hs
      cases q : takeA as (env.set i none) with
      | some p =>
        rw [q] at h
        cases h
        obtain ⟨v, hv, c1⟩ := c.take hs
        rw [hi] at hv
        cases hv
        obtain ⟨c2, l⟩ := ih q (Cfg.under t.len c1)
        exact ⟨Cfg.over l c2, by rw [List.length_cons, List.length_cons, l]⟩
      | none => rw [q] at h; cases h
    · cases h
theorem Cfg.forget {i : Nat} (c : Cfg G Z R H ts vs env σ) : Cfg G Z R H ts vs (env.set i none) σ := by
  cases h : env[i]? with
  | none => rw [List.set_eq_of_length_le (List.getElem?_eq_none_iff.mp h)]; exact c
  | some o =>
    cases o with
    | none =>
      rw [show env.set i none = env from by
        apply List.ext_getElem?
        intro j
        by_cases e : i = j
        · subst e; rw [List.getElem?_set_self (List.getElem?_eq_some_iff.mp h).1, h]
        · rw [List.getElem?_set_ne e]]
      exact c
    | some s =>
      obtain ⟨v, _, c1⟩ := c.take h
      exact c1.pop
/-- behind: what was taken is put back (oo: none where it is lost) -/
theorem put_all {as : List Arg} {ws : List V} {ss : List Sv} {tw : List V} (t : Tmp σ as ws ss tw) : ∀ {oo : Env} {ts : List Sv} {vs : List V} {env : Env}, oo.length = ws.length → Cfg G Z R H (oo.filterMap id ++ ts) ((oo.zip ws).filterMap (fun p => p.1.map fun _ => p.2) ++ vs) env σ →
    Cfg G Z R H ts vs (putA as oo env) σ := by
  induction t with
  | nil =>
    intro oo ts vs env hl c
    cases oo with
    | nil => exact c
    | cons o r => cases hl
  | @v as ws ss tw s w t ih =>
    intro oo ts vs env hl c
    cases oo with
    | nil => cases hl
    | cons o r =>
      have hl' : r.length = ws.length := by simpa using hl
      cases o with
      | none => exact ih hl' c
      | some s' => exact ih hl' c.pop
  | @r as ws ss tw i w hi t ih =>
    intro oo ts vs env hl c
    cases oo with
    | nil => cases hl
    | cons o r =>
      have hl' : r.length = ws.length := by simpa using hl
      cases o with
      | none => exact ih hl' c.forget
      | some s' => exact ih hl' (c.back hi)
theorem put_same {ss : List Sv} {ws : List V} (hl : ss.length = ws.length) : (ss.map some).filterMap id = ss ∧ ((ss.map some).zip ws).filterMap (fun p => p.1.map fun _ => p.2) = ws := by
  refine ⟨by rw [List.filterMap_map]; exact List.filterMap_some, ?_⟩
  induction ss generalizing ws with
  | nil => cases ws with
    | nil => rfl
    | cons _ _ => cases hl
  | cons s ss ih => cases ws with
    | nil => cases hl
    | cons w ws =>
      have := ih (ws := ws) (by simpa using hl)
      simp only [List.map_cons, List.zip_cons_cons, List.filterMap_cons, Option.map_some]
      rw [this]
theorem put_ok {as : List Arg} {ws : List V} {ss0 : List Sv} {tw : List V} (t : Tmp σ as ws ss0 tw) {ss : List Sv} (hl : ss.length = ws.length) (c : Cfg G Z R H (ss ++ ts) (ws ++ vs) env σ) : Cfg G Z R H ts vs (putA as (ss.map some) env) σ := by
  obtain ⟨e1, e2⟩ := put_same hl
  exact put_all t (oo := ss.map some) (by rw [List.length_map, hl]) (by rw [e1, e2]; exact c)
theorem ArgC.tmp {a : Arg} {v : V} (c : ArgC G Z R H a v ts vs env σ) : ∃ ss tw, Tmp σ [a] [v] ss tw ∧ Cfg G Z R H (ss ++ ts) (tw ++ vs) env σ := by
  cases a with
  | v s => exact ⟨[s], [v], .v .nil, c⟩
  | r i => exact ⟨[], [], .r c.1 .nil, c.2⟩
end

/-! ### arguments from the left -/
@[simp] def aNil : Env → Res (List Arg × Env) := fun env => .ok ([], env)
@[simp] def aCons (f : Ex) (g : Env → Res (List Arg × Env)) : Env → Res (List Arg × Env) := fun env => (f env).bind fun p => (g p.2).bind fun q => .ok (p.1 :: q.1, q.2)
section
variable {C : Str → Addr} {X : Cx} {W : WX}
theorem va_nil : VA C X W [] aNil := ⟨fun Z => pa_imp pa_nil fun σ H Q ⟨R, ts, vs, env, c, h⟩ => h [] R H ⟨[], [], .nil, c⟩⟩
theorem ER.mono {G : Gd} {Z : Zn} {f : Ex} {σ : L2.St} {H : Hp} {Q Q' : VK} (h : ER G Z W f σ H Q) (i : ∀ v H, Q v H → Q' v H) : ER G Z W f σ H Q' := by
  obtain ⟨R, ts, vs, env, c, h⟩ := h
  refine ⟨R, ts, vs, env, c, ?_⟩
  revert h
  generalize f env = r
  intro h
  match r, h with
  | .ok (a, e), h => exact fun v R' H' x => i _ _ (h v R' H' x)
  | .exc x e, h => exact h
theorem ER.bind {G : Gd} {Z : Zn} {f : Ex} {k : Arg × Env → Res (Arg × Env)} {σ : L2.St} {H : Hp} {Q Q' : VK} (h : ER G Z W (fun env => (f env).bind k) σ H Q)
    (i : ∀ R1 H1 ts vs a v e, ArgC G Z R1 H1 a v ts vs e σ → Out G Z W ts vs σ Q (k (a, e)) → Q' v H1) : ER G Z W f σ H Q' := by
  obtain ⟨R, ts, vs, env, c, h⟩ := h
  refine ⟨R, ts, vs, env, c, ?_⟩
  revert h
  show Out G Z W ts vs σ Q ((f env).bind k) → _
  generalize f env = r
  intro h
  match r, h with
  | .ok (a, e), h => exact fun v R' H' x => i _ _ _ _ _ _ _ x h
  | .exc x e, h => exact h
theorem AR.bind {G : Gd} {Z : Zn} {f : Env → Res (List Arg × Env)} {k : List Arg × Env → Res (Arg × Env)} {σ : L2.St} {H : Hp} {Q : VK} {Q' : List V → Hp → Prop} (h : ER G Z W (fun env => (f env).bind k) σ H Q)
    (i : ∀ R1 H1 ts vs as ws e, ArgsC G Z R1 H1 as ws ts vs e σ → Out G Z W ts vs σ Q (k (as, e)) → Q' ws H1) : AR G Z W f σ H Q' := by
  obtain ⟨R, ts, vs, env, c, h⟩ := h
  refine ⟨R, ts, vs, env, c, ?_⟩
  revert h
  show Out G Z W ts vs σ Q ((f env).bind k) → _
  generalize f env = r
  intro h
  match r, h with
  | .ok (as, e), h => exact fun v R' H' x => i _ _ _ _ _ _ _ x h
  | .exc x e, h => exact h
theorem va_cons {e : Expr} {es : List Expr} {f : Ex} {g : Env → Res (List Arg × Env)} (he : VE C X W e f) (hr : VA C X W es g) (hs : starEach (e :: es) X.env = (false, eval e X.env) :: starEach es X.env := by rfl) : VA C X W (e :: es) (aCons f g) := by
  refine ⟨fun Z => pa_imp (pa_cons (he.run Z) (hr.run Z) hs) fun σ H Q h => ?_⟩
  obtain ⟨R, ts, vs, env, c, h⟩ := h
  refine ⟨R, ts, vs, env, c, ?_⟩
  simp only [aCons] at h
  cases q : f env with
  | bad => rw [q] at h; exact h
  | exc x e => rw [q] at h; exact h
  | ok p =>
    obtain ⟨a, e1⟩ := p
    rw [q] at h
    intro v R1 H1 c1
    obtain ⟨ss, tw, t1, c1⟩ := c1.tmp
    refine ⟨R1, ss ++ ts, tw ++ vs, e1, c1, ?_⟩
    simp only [Res.bind] at h
    cases q2 : g e1 with
    | bad => rw [q2] at h; exact h
    | exc x e => rw [q2] at h; exact h
    | ok p2 =>
      obtain ⟨as, e2⟩ := p2
      rw [q2] at h
      rintro ws R2 H2 ⟨ss2, tw2, t2, c2⟩
      refine h (v :: ws) R2 H2 ?_
      cases t1 with
      | v t =>
        cases t
        exact ⟨_, _, .v t2, Cfg.over t2.len c2⟩
      | r hi t =>
        cases t
        exact ⟨_, _, .r hi t2, c2⟩
end
end Fw
set_option Elab.async false
set_option linter.all false
set_option maxRecDepth 100000
set_option maxHeartbeats 1000000
/-! Rules: names, constants, operators, displays, subscripts, calls of built-ins, of one's own. -/
namespace Fw
open PySem PySem.Spec PyProof.Rows L2

/-! ### names, constants -/
@[simp] def eVar (i : Nat) : Ex := fun env => match env[i]? with
  | some (some (.fz d)) => .ok (.v (.fz d), env)
  | _ => .bad
@[simp] def eRef (i : Nat) : Ex := fun env => match env[i]? with
  | some (some _) => .ok (.r i, env)
  | _ => .bad
@[simp] def eFrz (i : Nat) : Ex := fun env => match env[i]? with
  | some (some s) => .ok (.v (.fz s.frz), env.set i (some (.fz s.frz)))
  | _ => .bad
@[simp] def eMove (i : Nat) : Ex := fun env => match env[i]? with
  | some (some s) => .ok (.v s, env.set i none)
  | _ => .bad
@[simp] def eC (d : Dt) : Ex := fun env => .ok (.v (.fz d), env)
section
variable {C : Str → Addr} {X : Cx} {W : WX}
theorem ve_var {i : Nat} {x : Str} {pos : Pos} (hN : X.N[i]? = some x := by rfl) (hv : Vis X.env.scope x := by first | exact Or.inl rfl | exact Or.inr (Or.inl rfl) | exact Or.inr (Or.inr rfl)) (hd : (x == ("__debug__" : Str)) = false := by decide) (hcd : (x == ("__classdict__" : Str)) = false := by decide) : VE C X W (.Name x pos) (eVar i) := by
  refine ⟨fun Z => pe_imp (pe_var hN hv hd hcd) fun σ H Q ⟨R, ts, vs, env, c, h⟩ => ?_⟩
  unfold eVar at h
  split at h
  · rename_i d hs
    obtain ⟨v, hv, r⟩ := c.slot hs
    exact ⟨v, hv, h v R H (c.push r)⟩
  · exact h.elim
theorem ve_ref {i : Nat} {x : Str} {pos : Pos} (hN : X.N[i]? = some x := by rfl) (hv : Vis X.env.scope x := by first | exact Or.inl rfl | exact Or.inr (Or.inl rfl) | exact Or.inr (Or.inr rfl)) (hd : (x == ("__debug__" : Str)) = false := by decide) (hcd : (x == ("__classdict__" : Str)) = false := by decide) : VE C X W (.Name x pos) (eRef i) := by
  refine ⟨fun Z => pe_imp (pe_var hN hv hd hcd) fun σ H Q ⟨R, ts, vs, env, c, h⟩ => ?_⟩
  unfold eRef at h
  split at h
  · rename_i s hs
    obtain ⟨v, hv, _⟩ := c.take hs
    exact ⟨v, hv, h v R H ⟨hv, c⟩⟩
  · exact h.elim
theorem ve_frz {i : Nat} {x : Str} {pos : Pos} (hN : X.N[i]? = some x := by rfl) (hv : Vis X.env.scope x := by first | exact Or.inl rfl | exact Or.inr (Or.inl rfl) | exact Or.inr (Or.inr rfl)) (hd : (x == ("__debug__" : Str)) = false := by decide) (hcd : (x == ("__classdict__" : Str)) = false := by decide) : VE C X W (.Name x pos) (eFrz i) := by
  refine ⟨fun Z => pe_imp (pe_var hN hv hd hcd) fun σ H Q ⟨R, ts, vs, env, c, h⟩ => ?_⟩
  unfold eFrz at h
  split at h
  · rename_i s hs
    obtain ⟨v, hv, c1⟩ := c.take hs
    obtain ⟨R', e, c2⟩ := c1.freeze
    refine ⟨v, hv, h v R' H ?_⟩
    have r := c2.top
    have c3 := c2.back hv
    rw [List.set_set] at c3
    exact c3.push r
  · exact h.elim
theorem ve_move {i : Nat} {x : Str} {pos : Pos} (hN : X.N[i]? = some x := by rfl) (hv : Vis X.env.scope x := by first | exact Or.inl rfl | exact Or.inr (Or.inl rfl) | exact Or.inr (Or.inr rfl)) (hd : (x == ("__debug__" : Str)) = false := by decide) (hcd : (x == ("__classdict__" : Str)) = false := by decide) : VE C X W (.Name x pos) (eMove i) := by
  refine ⟨fun Z => pe_imp (pe_var hN hv hd hcd) fun σ H Q ⟨R, ts, vs, env, c, h⟩ => ?_⟩
  unfold eMove at h
  split at h
  · rename_i s hs
    obtain ⟨v, hv, c1⟩ := c.take hs
    exact ⟨v, hv, h v R H c1⟩
  · exact h.elim
theorem ve_c {e : Expr} {v : V} {d : Dt} (h : PE X e (tC v)) (hd : ∀ R, RpD (gd X C) R d v) : VE C X W e (eC d) :=
  ⟨fun Z => pe_imp h fun σ H Q ⟨R, ts, vs, env, c, h⟩ => h v R H (c.push (hd R))⟩
theorem ve_int {i j pos} : VE C X W (.Constant (.int i) j pos) (eC (.int i)) := ve_c pe_int fun _ => rfl
theorem ve_bl {b j pos} : VE C X W (.Constant (.bool b) j pos) (eC (.bl b)) := ve_c pe_bl fun _ => rfl
theorem ve_non {j pos} : VE C X W (.Constant .none j pos) (eC .non) := ve_c pe_non fun _ => rfl
theorem ve_str {x j pos} : VE C X W (.Constant (.str x) j pos) (eC (.str x)) := ve_c pe_str fun _ => rfl
theorem ve_gint {x : Str} {i : Int} {t : Tok} {pos : Pos} (hg : Gl X x) (hm : X.mg x = some (.int i t)) (hd : (x == ("__debug__" : Str)) = false := by decide) : VE C X W (.Name x pos) (eC (.int i)) := ve_c (pe_glob (v := .int i) hg hm ⟨t, rfl⟩ hd) fun _ => rfl
theorem ve_gstr {x y : Str} {t : Tok} {pos : Pos} (hg : Gl X x) (hm : X.mg x = some (.str y t)) (hd : (x == ("__debug__" : Str)) = false := by decide) : VE C X W (.Name x pos) (eC (.str y)) := ve_c (pe_glob (v := .str y) hg hm ⟨t, rfl⟩ hd) fun _ => rfl
end

/-! ### operators -/
/-- the built-in's or operator's work on what the arguments own -/
@[simp] def finA (g : List Sv → Option (Sv × List Sv)) (as : List Arg) (e : Env) : Res (Arg × Env) :=
  match takeA as e with
  | none => .bad
  | some t => match g t.1 with
    | none => .bad
    | some r => if r.2.length = t.1.length then .ok (.v r.1, putA as (r.2.map some) t.2) else .bad
/-- r is served by g -/
def Srv (G : Gd) (r : List V → Hp → VK → Prop) (g : List Sv → Option (Sv × List Sv)) : Prop :=
  ∀ Z R H ss ws ts vs env σ s ss' Q, ss.length = ws.length → Cfg G Z R H (ss ++ ts) (ws ++ vs) env σ → g ss = some (s, ss') → ss'.length = ss.length →
    (∀ v R' H', Cfg G Z R' H' (s :: (ss' ++ ts)) (v :: (ws ++ vs)) env σ → Q v H') → r ws H Q
@[simp] def eBin (g : List Sv → Option (Sv × List Sv)) (fa fb : Ex) : Ex := fun env => (fa env).bind fun p => (fb p.2).bind fun q => finA g [p.1, q.1] q.2
@[simp] def eUn (g : List Sv → Option (Sv × List Sv)) (fa : Ex) : Ex := fun env => (fa env).bind fun p => finA g [p.1] p.2
@[simp] def eCall (g : List Sv → Option (Sv × List Sv)) (fa : Env → Res (List Arg × Env)) : Ex := fun env => (fa env).bind fun p => finA g p.1 p.2
@[simp] def svTy : Sv → String
  | .lst _ => "list"
  | .fz (.lst _) => "list"
  | .fz (.str _) => "str"
  | .fz (.int _) => "int"
  | _ => ""
@[simp] def argTy (a : Arg) (env : Env) : String := match a with
  | .v s => svTy s
  | .r i => match env[i]? with
    | some (some s) => svTy s
    | _ => ""
@[simp] def eMeth (T : String) (g : List Sv → Option (Sv × List Sv)) (fo : Ex) (fa : Env → Res (List Arg × Env)) : Ex := fun env => (fo env).bind fun p => if argTy p.1 p.2 = T then (fa p.2).bind fun q => finA g (p.1 :: q.1) q.2 else .bad
@[simp] def eMeth0 (T : String) (g : List Sv → Option (Sv × List Sv)) (fo : Ex) : Ex := fun env => (fo env).bind fun p => if argTy p.1 p.2 = T then finA g [p.1] p.2 else .bad
/-- the arguments stay -/
def keepG (g : List Sv → Option Sv) : List Sv → Option (Sv × List Sv) := fun ss => (g ss).map fun s => (s, ss)

section
variable {G : Gd} {Z : Zn} {W : WX} {R H : Hp} {ts : List Sv} {vs : List V} {env : Env} {σ : L2.St}
theorem fin_ok {g : List Sv → Option (Sv × List Sv)} {r : List V → Hp → VK → Prop} {as : List Arg} {ws : List V} {e : Env} {Q : VK} (hg : Srv G r g) (c : ArgsC G Z R H as ws ts vs e σ) (h : Out G Z W ts vs σ Q (finA g as e)) : r ws H Q := by
  obtain ⟨ss, tw, t, c⟩ := c
  unfold finA at h
  split at h
  · exact h.elim
  · rename_i p hp
    obtain ⟨out, e'⟩ := p
    obtain ⟨c1, l1⟩ := take_all t hp c
    split at h
    · exact h.elim
    · rename_i q hq
      obtain ⟨s, ss'⟩ := q
      split at h
      · rename_i hl
        exact hg Z R H out ws ts vs e' σ s ss' Q l1 c1 hq hl fun v R' H' c2 => h v R' H' (put_ok t (hl.trans l1) (ts := s :: ts) (vs := v :: vs) (Cfg.under (hl.trans l1) c2))
      · exact h.elim
theorem ArgC.two {a b : Arg} {v u : V} {ss : List Sv} {tw : List V} {e : Env} (t : Tmp σ [a] [v] ss tw) (c : ArgC G Z R H b u (ss ++ ts) (tw ++ vs) e σ) : ArgsC G Z R H [a, b] [v, u] ts vs e σ := by
  obtain ⟨s2, w2, t2, c⟩ := c.tmp
  cases t with
  | v t =>
    cases t
    exact ⟨_, _, .v t2, Cfg.over t2.len c⟩
  | r hi t =>
    cases t
    exact ⟨_, _, .r hi t2, c⟩
theorem ArgsC.cons {a : Arg} {as : List Arg} {v : V} {ws : List V} {ss : List Sv} {tw : List V} {e : Env} (t : Tmp σ [a] [v] ss tw) (c : ArgsC G Z R H as ws (ss ++ ts) (tw ++ vs) e σ) : ArgsC G Z R H (a :: as) (v :: ws) ts vs e σ := by
  obtain ⟨s2, w2, t2, c⟩ := c
  cases t with
  | v t =>
    cases t
    exact ⟨_, _, .v t2, Cfg.over t2.len c⟩
  | r hi t =>
    cases t
    exact ⟨_, _, .r hi t2, c⟩
/-- left, then right -/
theorem er_two {fa fb : Ex} {k : Arg → Arg → Env → Res (Arg × Env)} {H : Hp} {Q : VK} {Q' : V → V → Hp → Prop} (h : ER G Z W (fun env => (fa env).bind fun p => (fb p.2).bind fun q => k p.1 q.1 q.2) σ H Q)
    (i : ∀ R1 H1 ts vs a b v u e, ArgsC G Z R1 H1 [a, b] [v, u] ts vs e σ → Out G Z W ts vs σ Q (k a b e) → Q' v u H1) : ER G Z W fa σ H fun v H1 => ER G Z W fb σ H1 fun u H2 => Q' v u H2 := by
  refine h.bind fun R1 H1 ts vs a v e c o => ?_
  obtain ⟨ss, tw, t, c1⟩ := c.tmp
  refine ⟨R1, ss ++ ts, tw ++ vs, e, c1, ?_⟩
  revert o
  show Out G Z W ts vs σ Q ((fb e).bind fun q => k a q.1 q.2) → _
  generalize fb e = r
  intro o
  match r, o with
  | .ok (b, e2), o => exact fun u R2 H2 c2 => i _ _ _ _ _ _ _ _ _ (ArgC.two t c2) o
  | .exc x e2, o => exact o
theorem er_args {fo : Ex} {fa : Env → Res (List Arg × Env)} {k : Arg → List Arg → Env → Res (Arg × Env)} {fc : Arg → Env → Prop} [∀ a e, Decidable (fc a e)] {H : Hp} {Q : VK} {P : V → Hp → Prop} {Q' : V → List V → Hp → Prop} (h : ER G Z W (fun env => (fo env).bind fun p => if fc p.1 p.2 then (fa p.2).bind fun q => k p.1 q.1 q.2 else .bad) σ H Q)
    (j : ∀ R1 H1 ts vs a v e, ArgC G Z R1 H1 a v ts vs e σ → fc a e → P v H1)
    (i : ∀ R1 H1 ts vs a as v ws e, ArgsC G Z R1 H1 (a :: as) (v :: ws) ts vs e σ → Out G Z W ts vs σ Q (k a as e) → Q' v ws H1) : ER G Z W fo σ H fun v H1 => P v H1 ∧ AR G Z W fa σ H1 fun ws H2 => Q' v ws H2 := by
  refine h.bind (k := fun p => if fc p.1 p.2 then (fa p.2).bind fun q => k p.1 q.1 q.2 else .bad) fun R1 H1 ts vs a v e c o => ?_
  by_cases hf : fc a e
  · have o : Out G Z W ts vs σ Q (if fc a e then (fa e).bind fun q => k a q.1 q.2 else .bad) := o
    rw [if_pos hf] at o
    refine ⟨j _ _ _ _ _ _ _ c hf, ?_⟩
    obtain ⟨ss, tw, t, c1⟩ := c.tmp
    refine ⟨R1, ss ++ ts, tw ++ vs, e, c1, ?_⟩
    revert o
    generalize fa e = r
    intro o
    match r, o with
    | .ok (as, e2), o => exact fun ws R2 H2 c2 => i _ _ _ _ _ _ _ _ _ (ArgsC.cons t c2) o
    | .exc x e2, o => exact o
  · have o : Out G Z W ts vs σ Q (if fc a e then (fa e).bind fun q => k a q.1 q.2 else .bad) := o
    rw [if_neg hf] at o
    exact o.elim
end
section
variable {C : Str → Addr} {X : Cx} {W : WX} {a b : Expr} {fa fb : Ex} {pos : Pos}
def r2l (r : R2) : List V → Hp → VK → Prop := fun ws H Q => match ws with
  | [x, y] => r x y H Q
  | _ => False
def r1l (r : V → Hp → VK → Prop) : List V → Hp → VK → Prop := fun ws H Q => match ws with
  | [x] => r x H Q
  | _ => False
def rml (r : V → List V → Hp → VK → Prop) : List V → Hp → VK → Prop := fun ws H Q => match ws with
  | x :: xs => r x xs H Q
  | _ => False
theorem ve_op {op : Operator} {r : R2} {g : List Sv → Option (Sv × List Sv)} (hr : OpR X (binaryOp op) r) (hg : Srv (gd X C) (r2l r) g) (ha : VE C X W a fa) (hb : VE C X W b fb) : VE C X W (.BinOp a op b pos) (eBin g fa fb) :=
  ⟨fun Z => pe_imp (pe_op hr (ha.run Z) (hb.run Z)) fun σ H Q h => er_two (k := fun a b e => finA g [a, b] e) h fun _ _ _ _ _ _ _ _ _ c o => fin_ok hg c o⟩
theorem ve_cmp {op : CmpOp} {r : R2} {g : List Sv → Option (Sv × List Sv)} (hr : OpR X (compareOp op) r) (hg : Srv (gd X C) (r2l r) g) (ha : VE C X W a fa) (hb : VE C X W b fb) (hm : behindInMarks op b = false) : VE C X W (.Compare a [op] [b] pos) (eBin g fa fb) :=
  ⟨fun Z => pe_imp (pe_cmpR hr (ha.run Z) (hb.run Z) hm) fun σ H Q h => er_two (k := fun a b e => finA g [a, b] e) h fun _ _ _ _ _ _ _ _ _ c o => fin_ok hg c o⟩
theorem ve_ix {r : R2} {g : List Sv → Option (Sv × List Sv)} (hr : IxR X r) (hg : Srv (gd X C) (r2l r) g) (ha : VE C X W a fa) (hb : VE C X W b fb) (hp : PlainIx b) : VE C X W (.Subscript a b pos) (eBin g fa fb) :=
  ⟨fun Z => pe_imp (pe_ix hr (ha.run Z) (hb.run Z) hp) fun σ H Q h => er_two (k := fun a b e => finA g [a, b] e) h fun _ _ _ _ _ _ _ _ _ c o => fin_ok hg c o⟩
theorem ve_un {op : UnaryOp} {r : V → Hp → VK → Prop} {g : List Sv → Option (Sv × List Sv)} (hr : UnR X (unaryOp op) r) (hg : Srv (gd X C) (r1l r) g) (ha : VE C X W a fa) : VE C X W (.UnaryOp op a pos) (eUn g fa) :=
  ⟨fun Z => pe_imp (pe_un hr (ha.run Z)) fun σ H Q h => h.bind fun _ _ _ _ _ _ _ c o => by
    obtain ⟨ss, tw, t, c1⟩ := c.tmp
    exact fin_ok hg ⟨ss, tw, t, c1⟩ o⟩
variable {x : Str} {p : Pos} {e : Expr} {es : List Expr} {fA : Env → Res (List Arg × Env)}
theorem ve_callB {id : String} {r : List V → Hp → VK → Prop} {g : List Sv → Option (Sv × List Sv)} (hr : CallR X (.builtin id) r) (hg : Srv (gd X C) r g) (hgl : Gl X x) (hm : X.mg x = none) (hv : bootBuiltins x = some (.builtin id)) (ha : VA C X W (e :: es) fA)
    (hn : x ≠ ("__name__" : Str) := by decide) (hd : (x == ("__debug__" : Str)) = false := by decide) (hs : starEach (e :: es) X.env = (false, eval e X.env) :: starEach es X.env := by rfl) (hpl : (backTo pos (starEach es X.env)).any (·.1) = false := by rfl) : VE C X W (.Call (.Name x p) (e :: es) [] pos) (eCall g fA) :=
  ⟨fun Z => pe_imp (pe_callB hr hgl hm hv (ha.run Z) hn hd hs hpl) fun σ H Q h => AR.bind h fun _ _ _ _ _ _ _ c o => fin_ok hg c o⟩
theorem ve_callTy {T : String} {r : List V → Hp → VK → Prop} {g : List Sv → Option (Sv × List Sv)} (hr : CallR X (.type T) r) (hg : Srv (gd X C) r g) (hgl : Gl X x) (hm : X.mg x = none) (hv : bootBuiltins x = some (.type T)) (ha : VA C X W (e :: es) fA)
    (hn : x ≠ ("__name__" : Str) := by decide) (hd : (x == ("__debug__" : Str)) = false := by decide) (hs : starEach (e :: es) X.env = (false, eval e X.env) :: starEach es X.env := by rfl) (hpl : (backTo pos (starEach es X.env)).any (·.1) = false := by rfl) : VE C X W (.Call (.Name x p) (e :: es) [] pos) (eCall g fA) :=
  ⟨fun Z => pe_imp (pe_callTy hr hgl hm hv (ha.run Z) hn hd hs hpl) fun σ H Q h => AR.bind h fun _ _ _ _ _ _ _ c o => fin_ok hg c o⟩
theorem Cfg.ty {Z : Zn} {R H : Hp} {s : Sv} {v : V} {ts : List Sv} {vs : List V} {env : Env} {σ : L2.St} {T : String} (c : Cfg (gd X C) Z R H (s :: ts) (v :: vs) env σ) (h : svTy s = T) (hT : T ≠ "") : tyV X.K T v H := by
  have sub := c.wf
  obtain ⟨f, r⟩ := c.topS
  cases s with
  | lst ss =>
    obtain ⟨a, ws, g, rfl, ha, _⟩ := r
    exact .inl ⟨h.symm, ws, .inl (.inl ha)⟩
  | ins c ns ss => exact absurd h.symm hT
  | fz d =>
    cases d with
    | lst ds =>
      obtain ⟨⟨a, ws, rfl, ha, _⟩, _⟩ := r
      exact .inl ⟨h.symm, ws, sub.seq ha⟩
    | str x =>
      obtain ⟨rfl, _⟩ := r
      exact h.symm
    | int x =>
      obtain ⟨rfl, _⟩ := r
      exact h.symm
    | non => exact absurd h.symm hT
    | bl b => exact absurd h.symm hT
    | tup ds => exact absurd h.symm hT
    | obj c ns ds => exact absurd h.symm hT
theorem ArgC.ty {Z : Zn} {R H : Hp} {a : Arg} {v : V} {ts : List Sv} {vs : List V} {env : Env} {σ : L2.St} {T : String} (c : ArgC (gd X C) Z R H a v ts vs env σ) (h : argTy a env = T) (hT : T ≠ "") : tyV X.K T v H := by
  cases a with
  | v s => exact Cfg.ty c h hT
  | r i =>
    obtain ⟨hv, c⟩ := c
    unfold argTy at h
    simp only at h
    split at h
    · rename_i s hs
      obtain ⟨v', hv', c'⟩ := c.take hs
      rw [hv] at hv'
      cases hv'
      exact c'.ty h hT
    · exact absurd h.symm hT
theorem ve_meth {o : Expr} {fo : Ex} {name : Str} {apos cpos : Pos} {T id : String} {r : V → List V → Hp → VK → Prop} {g : List Sv → Option (Sv × List Sv)} (hpl : PlainAttrs T) (hsl : Slot T name id) (hty : typeOf (.builtin id) = pure (.type "method_descriptor"))
    (hr : MtR X id r) (hg : Srv (gd X C) (rml r) g) (hT : T ≠ "") (ho : VE C X W o fo) (ha : VA C X W (e :: es) fA)
    (hat : attributeBase o name X.env (eval o X.env) = eval o X.env := by rfl) (hb : ((backTo cpos (starEach (e :: es) X.env)).all (!·.1) && (backToKw cpos (keywordEach [] X.env)).all (·.1.isSome) && decide ((e :: es).length + ([] : List Keyword).length + (if ([] : List Keyword).isEmpty = true then 0 else 1) < 30)) = true := by rfl)
    (hp : (apos.endLine == cpos.line) = true := by rfl) (hs : starEach (e :: es) X.env = (false, eval e X.env) :: starEach es X.env := by rfl) (hpl2 : (backTo cpos (starEach es X.env)).any (·.1) = false := by rfl) : VE C X W (.Call (.Attribute o name apos) (e :: es) [] cpos) (eMeth T g fo fA) :=
  ⟨fun Z => pe_imp (pe_bm hpl hsl hty hr (ho.run Z) (ha.run Z) hat hb hp hs hpl2) fun σ H Q h => by
    refine er_args (k := fun a as e => finA g (a :: as) e) (fc := fun a e => argTy a e = T) h (fun _ _ _ _ _ _ _ c o => c.ty o hT) fun R1 H1 ts vs a as v ws e c o => (fin_ok (ws := v :: ws) hg c o : rml r (v :: ws) H1 Q)⟩
theorem ve_meth0 {o : Expr} {fo : Ex} {name : Str} {apos cpos : Pos} {T id : String} {r : V → List V → Hp → VK → Prop} {g : List Sv → Option (Sv × List Sv)} (hpl : PlainAttrs T) (hsl : Slot T name id) (hty : typeOf (.builtin id) = pure (.type "method_descriptor"))
    (hr : MtR X id r) (hg : Srv (gd X C) (rml r) g) (hT : T ≠ "") (ho : VE C X W o fo)
    (hat : attributeBase o name X.env (eval o X.env) = eval o X.env := by rfl) (hp : (apos.endLine == cpos.line) = true := by rfl) : VE C X W (.Call (.Attribute o name apos) [] [] cpos) (eMeth0 T g fo) :=
  ⟨fun Z => pe_imp (pe_bm0 hpl hsl hty hr (ho.run Z) hat hp) fun σ H Q h => by
    refine ER.bind (k := fun p => if argTy p.1 p.2 = T then finA g [p.1] p.2 else .bad) h fun _ _ _ _ a v e c o => ?_
    by_cases q : argTy a e = T
    · refine ⟨c.ty q hT, ?_⟩
      have o' : Out (gd X C) Z W _ _ σ Q (if argTy a e = T then finA g [a] e else .bad) := o
      rw [if_pos q] at o'
      obtain ⟨ss, tw, t, c1⟩ := c.tmp
      exact (fin_ok (ws := [v]) hg ⟨ss, tw, t, c1⟩ o' : rml r [v] _ Q)
    · have o' : Out (gd X C) Z W _ _ σ Q (if argTy a e = T then finA g [a] e else .bad) := o
      rw [if_neg q] at o'
      exact o'.elim⟩
end
end Fw
set_option Elab.async false
set_option linter.all false
set_option maxRecDepth 100000
set_option maxHeartbeats 1000000
/-! Calls of one's own defs, displays, truth, and, or, if. -/
namespace Fw
open PySem PySem.Spec PyProof.Rows L2

abbrev Fn := List Sv → Res (Sv × Env)
def OutF (G : Gd) (R H : Hp) (f : Fp) (ws : List V) (Q : VK) (E : XK) : Res (Sv × Env) → Prop
  | .ok (s, oo) => ∀ v R' H' g k, RpS G R' H' s v g → EnvRp G R' H' oo (ws.map some) k → Wf R' H' (fun b => g b + k b) → Tr R H f R' H' (fun b => g b + k b) → Q v H'
  | .exc x oo => ∀ c d R' H' k, XRp G R' x c d → EnvRp G R' H' oo (ws.map some) k → Wf R' H' k → Tr R H f R' H' k → E c d H'
  | .bad => False
/-- what a def promises: its value by m, what it was given as m says, all else as it was -/
def FSp (G : Gd) (m : Fn) : Sp := fun ws H Q E => ∃ R ss f, RpSs G R H ss ws f ∧ Wf R H f ∧ OutF G R H f ws Q E (m ss)
@[simp] def finF (m : Fn) (as : List Arg) (e : Env) : Res (Arg × Env) := match takeA as e with
  | none => .bad
  | some t => match m t.1 with
    | .ok r => .ok (.v r.1, putA as r.2 t.2)
    | .exc x oo => .exc x (putA as oo t.2)
    | .bad => .bad
@[simp] def eOwn (m : Fn) (fa : Env → Res (List Arg × Env)) : Ex := fun env => (fa env).bind fun p => finF m p.1 p.2

section
variable {G : Gd} {Z : Zn} {W : WX} {R H : Hp} {ts : List Sv} {vs : List V} {env : Env} {σ : L2.St}
theorem EnvRp.tmp : ∀ {oo : Env} {ws : List V} {k : Fp}, EnvRp G R H oo (ws.map some) k → RpSs G R H (oo.filterMap id) ((oo.zip ws).filterMap fun p => p.1.map fun _ => p.2) k ∧ oo.length = ws.length
  | [], ws, k, ⟨e, z⟩ => by
    have : ws = [] := List.map_eq_nil_iff.mp e
    subst this
    exact ⟨⟨rfl, z⟩, rfl⟩
  | none :: oo, [], k, ⟨x, σr, e, r⟩ => nomatch e
  | none :: oo, w :: ws, k, ⟨x, σr, e, r⟩ => by
    obtain ⟨_, e2⟩ := List.cons.inj e
    subst e2
    obtain ⟨h1, h2⟩ := EnvRp.tmp r
    exact ⟨h1, by rw [List.length_cons, List.length_cons, h2]⟩
  | some s :: oo, [], k, ⟨v, σr, g, l, e, _⟩ => nomatch e
  | some s :: oo, w :: ws, k, ⟨v, σr, g, l, e, h, r, z⟩ => by
    obtain ⟨e1, e2⟩ := List.cons.inj e
    cases e1
    subst e2
    obtain ⟨h1, h2⟩ := EnvRp.tmp r
    exact ⟨⟨w, _, g, l, rfl, h, h1, z⟩, by rw [List.length_cons, List.length_cons, h2]⟩
theorem Cfg.left {ss : List Sv} {ws : List V} (hl : ss.length = ws.length) (c : Cfg G Z R H (ss ++ ts) (ws ++ vs) env σ) : Cfg G Z R H (ss ++ []) (ws ++ []) env σ := c.reord fun g h => by
  obtain ⟨k1, k2, h3, h4, z2⟩ := RpSs.split' hl h
  rw [List.append_nil, List.append_nil]
  exact ⟨k1, h3, fun b => by rw [z2]; omega⟩
theorem finF_ok {m : Fn} {as : List Arg} {ws : List V} {e : Env} {Q : VK} (c : ArgsC G Z R H as ws ts vs e σ) (h : Out G Z W ts vs σ Q (finF m as e)) : FSp G m ws H Q (WE W σ) := by
  obtain ⟨ss, tw, t, c⟩ := c
  unfold finF at h
  split at h
  · exact h.elim
  · rename_i p hp
    obtain ⟨out, e'⟩ := p
    obtain ⟨c1, l1⟩ := take_all t hp c
    obtain ⟨⟨ft, fe, h1, h2, w, tr⟩, pn⟩ := c1
    obtain ⟨g1, g2, k1, k2, z⟩ := RpSs.split' l1 h1
    refine ⟨R, out, g1, k1, w.less fun b => by have := z b; omega, ?_⟩
    have eq : ∀ b, g2 b + fe b + g1 b = ft b + fe b := fun b => by have := z b; omega
    have w1 : Wf R H (fun b => (g2 b + fe b) + g1 b) := w.same eq
    -- what goes on with what the call leaves
    have go : ∀ {R' H' : Hp} {k : Fp} {g : Fp} {s : List Sv} {v : List V} {oo : Env}, RpSs G R' H' s v g → EnvRp G R' H' oo (ws.map some) k → Wf R' H' (fun b => g b + k b) → Tr R H g1 R' H' (fun b => g b + k b) →
        Cfg G Z R' H' (oo.filterMap id ++ (s ++ ts)) ((oo.zip ws).filterMap (fun p => p.1.map fun _ => p.2) ++ (v ++ vs)) e' σ ∧ oo.length = ws.length := fun {R' H' k g s v oo} r1 r2 w' t' => by
      have hk : ∀ a o, g2 a + fe a ≠ 0 → H a = some o → H' a = some o := fun a o hn ha => t'.keep a o ha (by
        have : ft a + fe a ≤ 1 := w.one a
        have := z a
        omega)
      obtain ⟨q1, q2⟩ := r2.tmp
      have sum := RpSs.join (RpSs.join (k2.mono (H' := H') t'.rs fun a o hn => hk a o (by omega)) r1) q1
      refine ⟨⟨⟨_, fe, sum, h2.mono t'.rs fun a o hn => hk a o (by omega), ?_, ?_⟩, pn⟩, q2⟩
      · exact (w1.frame w' t').same fun b => by
          show k b + (g b + g2 b) + fe b = g2 b + fe b + (g b + k b)
          omega
      · refine (tr.trans ((Tr.refl.less fun b => Nat.le_of_eq (eq b)).trans (Tr.frame (g := fun b => g2 b + fe b) t'))).less fun b => ?_
        show k b + (g b + g2 b) + fe b ≤ g2 b + fe b + (g b + k b)
        omega
    simp only at h
    revert h
    cases hm : m out with
    | bad => exact fun h => h.elim
    | ok r =>
      obtain ⟨s, oo⟩ := r
      intro h v R' H' g k r1 r2 w' t'
      obtain ⟨c2, l2⟩ := go (s := [s]) (v := [v]) ⟨v, [], g, fun _ => 0, rfl, r1, ⟨rfl, fun _ => rfl⟩, fun b => rfl⟩ r2 w' t'
      exact h v R' H' (put_all t l2 (ts := s :: ts) (vs := v :: vs) c2)
    | exc x oo =>
      intro h c d R' H' k hx r2 w' t'
      obtain ⟨c2, l2⟩ := go (s := []) (v := []) ⟨rfl, fun _ => rfl⟩ r2 (w'.same fun b => Nat.zero_add _) (t'.less fun b => by omega)
      have q3 : ∀ (x : Option Sv × V), True := fun _ => trivial
      have hl : (oo.filterMap id).length = ((oo.zip ws).filterMap fun p => p.1.map fun _ => p.2).length := r2.tmp.1.len
      exact h c d R' H' hx (put_all t l2 (ts := []) (vs := []) (c2.left hl))
end
section
variable {C : Str → Addr} {X : Cx} {W : WX} {e : Expr} {es : List Expr} {fA : Env → Res (List Arg × Env)} {x : Str} {p pos : Pos}
theorem ve_own {m : Fn} {k : Nat} {f : Addr} {fd : FuncData} {ps : List Str} (F : FnOk X.prog X.w X.K X.mg X.base (CX X.prog X.w) k f fd ps (FSp (gd X C) m)) (hr : Room k X.A) (hg : Gl X x) (hm : X.mg x = some (.ref f)) (hk : PySem.W.keepIn X.K (.ref f) = true) (hb : Binds X.K fd ps []) (tk : Takes X W)
    (ha : VA C X W (e :: es) fA) (hdb : (x == ("__debug__" : Str)) = false := by decide) (he : starEach (e :: es) X.env = (false, eval e X.env) :: starEach es X.env := by rfl) (hpl : (backTo pos (starEach es X.env)).any (·.1) = false := by rfl) :
    VE C X W (.Call (.Name x p) (e :: es) [] pos) (eOwn m fA) := by
  refine ⟨fun Z => pe_imp (pe_callSD (E := WE W) F hr hg hm hk hb .nil (passAt tk) (ha.run Z) hdb he hpl) fun σ H Q h => ?_⟩
  refine AR.bind h fun R1 H1 ts vs as ws e c o => ?_
  rw [List.append_nil]
  exact finF_ok c o
end

/-! ### displays -/
@[simp] def allV : List Arg → Option (List Sv)
  | [] => some []
  | .v s :: as => (allV as).map fun r => s :: r
  | .r _ :: _ => none
@[simp] def eTup (fa : Env → Res (List Arg × Env)) : Ex := fun env => (fa env).bind fun p => match allV p.1 with
  | some ss => if ss.length ≤ 1000 then .ok (.v (.fz (.tup (frzs ss))), p.2) else .bad
  | none => .bad
@[simp] def eLst (fa : Env → Res (List Arg × Env)) : Ex := fun env => (fa env).bind fun p => match allV p.1 with
  | some ss => if ss.length ≤ 1000 then .ok (.v (.lst ss), p.2) else .bad
  | none => .bad
section
variable {G : Gd} {Z : Zn} {W : WX} {R H : Hp} {ts : List Sv} {vs : List V} {env : Env} {σ : L2.St}
theorem allV_tmp {as : List Arg} {ws : List V} {ss : List Sv} {tw : List V} (t : Tmp σ as ws ss tw) {out : List Sv} (h : allV as = some out) : out = ss ∧ tw = ws := by
  induction t generalizing out with
  | nil => cases h; exact ⟨rfl, rfl⟩
  | @v as ws ss tw s w t ih =>
    simp only [allV] at h
    cases q : allV as with
    | none => rw [q] at h; cases h
    | some r =>
      rw [q] at h
      cases h
      obtain ⟨e1, e2⟩ := ih q
      exact ⟨by rw [e1], by rw [e2]⟩
  | r _ _ _ => cases h
/-- all of them are frozen -/
theorem Cfg.freezeAll : ∀ {ss : List Sv} {ws : List V} {ts : List Sv} {vs : List V} {R : Hp}, ss.length = ws.length → Cfg G Z R H (ss ++ ts) (ws ++ vs) env σ → ∃ R', Same R R' ∧ RpDs G R' (frzs ss) ws ∧ Cfg G Z R' H ts vs env σ
  | [], [], ts, vs, R, _, c => ⟨R, Same.refl R, rfl, c⟩
  | [], _ :: _, _, _, _, hl, _ => nomatch hl
  | _ :: _, [], _, _, _, hl, _ => nomatch hl
  | s :: ss, w :: ws, ts, vs, R, hl, c => by
    obtain ⟨R1, e1, c1⟩ := Cfg.freeze c
    obtain ⟨R2, e2, r2, c2⟩ := Cfg.freezeAll (by simpa using hl) c1.pop
    exact ⟨R2, e1.trans e2, ⟨w, ws, rfl, c1.top.mono e2, r2⟩, c2⟩
theorem frzs_len : ∀ ss : List Sv, (frzs ss).length = ss.length
  | [] => rfl
  | _ :: ss => by show (frzs ss).length + 1 = ss.length + 1; rw [frzs_len ss]
end
section
variable {C : Str → Addr} {X : Cx} {W : WX} {es : List Expr} {fA : Env → Res (List Arg × Env)} {pos : Pos}
theorem le_size {n : Nat} (h : n ≤ 1000) : n ≤ sizeLine := Nat.le_trans h (by decide)
theorem ve_tup {x1} (ha : VA C X W es fA) : VE C X W (.Tuple es x1 pos) (eTup fA) := by
  refine ⟨fun Z => pe_imp (pe_tup (ha.run Z)) fun σ H Q h => ?_⟩
  refine AR.bind (k := fun p => match allV p.1 with
    | some ss => if ss.length ≤ 1000 then .ok (.v (.fz (.tup (frzs ss))), p.2) else .bad
    | none => .bad) h fun R1 H1 ts vs as ws e c o => ?_
  obtain ⟨ss, tw, t, c⟩ := c
  simp only at o
  split at o
  · rename_i out hq
    obtain ⟨e1, e2⟩ := allV_tmp t hq
    subst e1 e2
    have hl : out.length = tw.length := t.len
    split at o
    · rename_i hs
      refine ⟨by rw [← hl]; exact le_size hs, fun p hp => ?_⟩
      obtain ⟨R2, e3, r3, c3⟩ := c.freezeAll hl
      obtain ⟨c4, e4⟩ := c3.grow (.tup tw) hp
      exact o _ _ _ (c4.push ⟨p, tw, rfl, .inl (.inl upd_same), r3.mono e4⟩)
    · exact o.elim
  · exact o.elim
theorem ve_lst (ha : VA C X W es fA) : VE C X W (.List es pos) (eLst fA) := by
  refine ⟨fun Z => pe_imp (pe_lst (ha.run Z)) fun σ H Q h => ?_⟩
  refine AR.bind (k := fun p => match allV p.1 with
    | some ss => if ss.length ≤ 1000 then .ok (.v (.lst ss), p.2) else .bad
    | none => .bad) h fun R1 H1 ts vs as ws e c o => ?_
  obtain ⟨ss, tw, t, c⟩ := c
  simp only at o
  split at o
  · rename_i out hq
    obtain ⟨e1, e2⟩ := allV_tmp t hq
    subst e1 e2
    have hl : out.length = tw.length := t.len
    split at o
    · rename_i hs
      exact ⟨by rw [← hl]; exact le_size hs, fun p hp => o _ _ _ (c.newLst hl hp)⟩
    · exact o.elim
  · exact o.elim
/-- a value that is frozen at once -/
@[simp] def eFz (f : Ex) : Ex := fun env => (f env).bind fun p => match p.1 with
  | .v s => .ok (.v (.fz s.frz), p.2)
  | .r _ => .bad
theorem ve_fz {e : Expr} {f : Ex} (h : VE C X W e f) : VE C X W e (eFz f) := by
  refine ⟨fun Z => pe_imp (h.run Z) fun σ H Q h => ?_⟩
  refine h.bind (k := fun p => match p.1 with
    | .v s => .ok (.v (.fz s.frz), p.2)
    | .r _ => .bad) fun R1 H1 ts vs a v e c o => ?_
  cases a with
  | r i => exact o.elim
  | v s =>
    obtain ⟨R2, e2, c2⟩ := Cfg.freeze c
    exact o v R2 H1 c2
end

/-! ### truth -/
@[simp] def truthS : Sv → Option Bool
  | .fz .non => some false
  | .fz (.bl b) => some b
  | .fz (.int i) => some (i != 0)
  | .fz (.str x) => if x.length ≤ sizeLine then some (x.length != 0) else none
  | .fz (.tup ds) => some !ds.isEmpty
  | .fz (.lst ds) => some !ds.isEmpty
  | .lst ss => some !ss.isEmpty
  | _ => none
@[simp] def truthA (a : Arg) (e : Env) : Option Bool := match a with
  | .v s => truthS s
  | .r i => match e[i]? with
    | some (some s) => truthS s
    | _ => none
abbrev Tx := Env → Res (Bool × Env)
@[simp] def tOf (f : Ex) : Tx := fun env => (f env).bind fun p => match truthA p.1 p.2 with
  | some b => .ok (b, p.2)
  | none => .bad
@[simp] def tAndX (f g : Tx) : Tx := fun env => (f env).bind fun p => if p.1 then g p.2 else .ok (false, p.2)
@[simp] def tOrX (f g : Tx) : Tx := fun env => (f env).bind fun p => if p.1 then .ok (true, p.2) else g p.2
@[simp] def tNotX (f : Tx) : Tx := fun env => (f env).bind fun p => .ok (!p.1, p.2)
@[simp] def eNot (f : Ex) : Ex := fun env => (f env).bind fun p => match truthA p.1 p.2 with
  | some b => .ok (.v (.fz (.bl !b)), p.2)
  | none => .bad
@[simp] def eIf (t : Tx) (f g : Ex) : Ex := fun env => (t env).bind fun p => if p.1 then f p.2 else g p.2
@[simp] def eAnd (f g : Ex) : Ex := fun env => (f env).bind fun p => match p.1 with
  | .v (.fz (.bl b)) => if b then g p.2 else .ok (.v (.fz (.bl false)), p.2)
  | _ => .bad
@[simp] def eOr (f g : Ex) : Ex := fun env => (f env).bind fun p => match p.1 with
  | .v (.fz (.bl b)) => if b then .ok (.v (.fz (.bl true)), p.2) else g p.2
  | _ => .bad
section
variable {C : Str → Addr} {X : Cx} {W : WX}
theorem RpDs.len {G : Gd} {R : Hp} : ∀ {ds : List Dt} {vs : List V}, RpDs G R ds vs → ds.length = vs.length
  | [], _, h => by rw [h]; rfl
  | _ :: _, _, ⟨v, vr, e, _, r⟩ => by rw [e, List.length_cons, List.length_cons, RpDs.len r]
theorem empty_len {α β : Type} {xs : List α} {ys : List β} (h : xs.length = ys.length) : xs.isEmpty = ys.isEmpty := by
  cases xs <;> cases ys <;> first | rfl | cases h
theorem Cfg.truth {Z : Zn} {R H : Hp} {s : Sv} {v : V} {ts : List Sv} {vs : List V} {env : Env} {σ : L2.St} {b : Bool} (c : Cfg (gd X C) Z R H (s :: ts) (v :: vs) env σ) (h : truthS s = some b) : TruV X.K v H b := by
  have sub := c.wf
  obtain ⟨f, r⟩ := c.topS
  cases s with
  | lst ss =>
    obtain ⟨a, ws, g, rfl, ha, hs, _⟩ := r
    cases h
    exact .inl ⟨ws, .inl (.inl ha), by rw [empty_len hs.len]⟩
  | ins c ns ss => cases h
  | fz d =>
    obtain ⟨r, _⟩ := r
    cases d with
    | non => cases r; cases h; rfl
    | bl k => cases r; cases h; rfl
    | int i => cases r; cases h; rfl
    | str x =>
      cases r
      simp only [truthS] at h
      split at h
      · rename_i hx
        cases h
        refine ⟨hx, ?_⟩
        by_cases q : x.length = 0
        · rw [q]; rfl
        · have q1 : (x.length != 0) = true := bne_iff_ne.mpr q
          have q2 : ((x.length : Int) != 0) = true := bne_iff_ne.mpr (by omega)
          rw [q1, q2]
      · cases h
    | tup ds =>
      obtain ⟨a, ws, rfl, ha, hs⟩ := r
      cases h
      exact .inr (.inl ⟨ws, sqT_mono sub ha, by rw [empty_len hs.len]⟩)
    | lst ds =>
      obtain ⟨a, ws, rfl, ha, hs⟩ := r
      cases h
      exact .inl ⟨ws, sub.seq ha, by rw [empty_len hs.len]⟩
    | obj c ns ds => cases h
theorem ArgC.truth {Z : Zn} {R H : Hp} {a : Arg} {v : V} {ts : List Sv} {vs : List V} {env : Env} {σ : L2.St} {b : Bool} (c : ArgC (gd X C) Z R H a v ts vs env σ) (h : truthA a env = some b) : TruV X.K v H b := by
  cases a with
  | v s => exact Cfg.truth c h
  | r i =>
    obtain ⟨hv, c⟩ := c
    unfold truthA at h
    simp only at h
    split at h
    · rename_i s hs
      obtain ⟨v', hv', c'⟩ := c.take hs
      rw [hv] at hv'
      cases hv'
      exact c'.truth h
    · cases h
theorem ArgC.drop {G : Gd} {Z : Zn} {R H : Hp} {a : Arg} {v : V} {ts : List Sv} {vs : List V} {env : Env} {σ : L2.St} (c : ArgC G Z R H a v ts vs env σ) : Cfg G Z R H ts vs env σ := by
  cases a with
  | v s => exact Cfg.pop c
  | r i => exact c.2
variable {a b : Expr} {f g : Ex} {pos : Pos} {tf tg : Tx}
theorem vt_of (h : VE C X W a f) (hi : ∀ (whole : Sem Value), isTrue a X.env whole = (do let v ← whole; standAt a.pos; holding [v] (truthy v)) := by intro _; rfl) : VT C X W a (tOf f) := by
  refine ⟨fun Z => pt_imp (pt_truth (h.run Z) hi) fun σ H Q h => ?_⟩
  obtain ⟨R, ts, vs, env, c, o⟩ := h
  refine ⟨R, ts, vs, env, c, ?_⟩
  unfold tOf at o
  revert o
  generalize f env = r
  intro o
  match r, o with
  | .exc x e, o => exact o
  | .ok (a, e), o =>
    intro v R' H' c'
    simp only [Res.bind] at o
    split at o
    · rename_i k hk
      exact ⟨k, c'.truth hk, o R' H' c'.drop⟩
    · exact o.elim
theorem TTR.bind {G : Gd} {Z : Zn} {f : Tx} {k : Bool × Env → Res (Bool × Env)} {σ : L2.St} {H : Hp} {Q Q' : Bool → Hp → Prop} (h : TTR G Z W (fun env => (f env).bind k) σ H Q)
    (i : ∀ R1 H1 ts vs b e, Cfg G Z R1 H1 ts vs e σ → OutT G Z W ts vs σ Q (k (b, e)) → Q' b H1) : TTR G Z W f σ H Q' := by
  obtain ⟨R, ts, vs, env, c, h⟩ := h
  refine ⟨R, ts, vs, env, c, ?_⟩
  revert h
  show OutT G Z W ts vs σ Q ((f env).bind k) → _
  generalize f env = r
  intro h
  match r, h with
  | .ok (a, e), h => exact fun R' H' x => i _ _ _ _ _ _ x h
  | .exc x e, h => exact h
theorem TTR.bindE {G : Gd} {Z : Zn} {f : Tx} {k : Bool × Env → Res (Arg × Env)} {σ : L2.St} {H : Hp} {Q : VK} {Q' : Bool → Hp → Prop} (h : ER G Z W (fun env => (f env).bind k) σ H Q)
    (i : ∀ R1 H1 ts vs b e, Cfg G Z R1 H1 ts vs e σ → Out G Z W ts vs σ Q (k (b, e)) → Q' b H1) : TTR G Z W f σ H Q' := by
  obtain ⟨R, ts, vs, env, c, h⟩ := h
  refine ⟨R, ts, vs, env, c, ?_⟩
  revert h
  show Out G Z W ts vs σ Q ((f env).bind k) → _
  generalize f env = r
  intro h
  match r, h with
  | .ok (a, e), h => exact fun R' H' x => i _ _ _ _ _ _ x h
  | .exc x e, h => exact h
theorem vt_not (h : VT C X W a tf) : VT C X W (.UnaryOp .Not a pos) (tNotX tf) :=
  ⟨fun Z => pt_imp (pt_not (h.run Z)) fun σ H Q h => TTR.bind h fun R1 H1 ts vs b e c o => o R1 H1 c⟩
theorem VW.vt (h : VW C X W a tf) : VT C X W a tf := ⟨fun Z => (h.run Z).pt⟩
variable {rest : List Expr}
theorem vw_and1 (h : VT C X W a tf) : VW C X W (.BoolOp .And [a] pos) tf := ⟨fun Z => pw_and1 (h.run Z)⟩
theorem vw_or1 (h : VT C X W a tf) : VW C X W (.BoolOp .Or [a] pos) tf := ⟨fun Z => pw_or1 (h.run Z)⟩
theorem vw_and (h : VT C X W a tf) (h2 : VW C X W (.BoolOp .And (b :: rest) pos) tg) : VW C X W (.BoolOp .And (a :: b :: rest) pos) (tAndX tf tg) :=
  ⟨fun Z => pw_imp (pw_and (h.run Z) (h2.run Z)) fun σ H Q h => TTR.bind h fun R1 H1 ts vs b e c o => by
    cases b with
    | true => exact ⟨R1, ts, vs, e, c, o⟩
    | false => exact o R1 H1 c⟩
theorem vw_or (h : VT C X W a tf) (h2 : VW C X W (.BoolOp .Or (b :: rest) pos) tg) : VW C X W (.BoolOp .Or (a :: b :: rest) pos) (tOrX tf tg) :=
  ⟨fun Z => pw_imp (pw_or (h.run Z) (h2.run Z)) fun σ H Q h => TTR.bind h fun R1 H1 ts vs b e c o => by
    cases b with
    | false => exact ⟨R1, ts, vs, e, c, o⟩
    | true => exact o R1 H1 c⟩
theorem ve_not (h : VE C X W a f) : VE C X W (.UnaryOp .Not a pos) (eNot f) := by
  refine ⟨fun Z => pe_imp (pe_notT (h.run Z)) fun σ H Q h => ?_⟩
  refine h.bind (k := fun p => match truthA p.1 p.2 with
    | some b => .ok (.v (.fz (.bl !b)), p.2)
    | none => .bad) fun R1 H1 ts vs a v e c o => ?_
  simp only at o
  split at o
  · rename_i k hk
    exact ⟨k, c.truth hk, o _ R1 H1 (c.drop.push rfl)⟩
  · exact o.elim
theorem ve_if {t : Expr} (ht : VT C X W t tf) (h1 : VE C X W a f) (h2 : VE C X W b g) : VE C X W (.IfExp t a b pos) (eIf tf f g) :=
  ⟨fun Z => pe_imp (pe_ifExp (ht.run Z) (h1.run Z) (h2.run Z)) fun σ H Q h => TTR.bindE h fun R1 H1 ts vs b e c o => by
    cases b with
    | true => exact ⟨R1, ts, vs, e, c, o⟩
    | false => exact ⟨R1, ts, vs, e, c, o⟩⟩
theorem ve_one {op} (h : VE C X W a f) : VE C X W (.BoolOp op [a] pos) f := ⟨fun Z => pe_one (h.run Z)⟩
theorem ve_and (h1 : VE C X W a f) (h2 : VE C X W (.BoolOp .And (b :: rest) pos) g) : VE C X W (.BoolOp .And (a :: b :: rest) pos) (eAnd f g) := by
  refine ⟨fun Z => pe_imp (pe_and (h1.run Z) (h2.run Z)) fun σ H Q h => ?_⟩
  refine h.bind (k := fun p => match p.1 with
    | .v (.fz (.bl b)) => if b then g p.2 else .ok (.v (.fz (.bl false)), p.2)
    | _ => .bad) fun R1 H1 ts vs a v e c o => ?_
  simp only at o
  split at o
  · rename_i k
    have := Cfg.top c
    cases this
    refine ⟨k, rfl, ?_⟩
    cases k with
    | true => exact ⟨R1, ts, vs, e, Cfg.pop c, o⟩
    | false => exact o _ R1 H1 ((Cfg.pop c).push rfl)
  · exact o.elim
theorem ve_or (h1 : VE C X W a f) (h2 : VE C X W (.BoolOp .Or (b :: rest) pos) g) : VE C X W (.BoolOp .Or (a :: b :: rest) pos) (eOr f g) := by
  refine ⟨fun Z => pe_imp (pe_or (h1.run Z) (h2.run Z)) fun σ H Q h => ?_⟩
  refine h.bind (k := fun p => match p.1 with
    | .v (.fz (.bl b)) => if b then .ok (.v (.fz (.bl true)), p.2) else g p.2
    | _ => .bad) fun R1 H1 ts vs a v e c o => ?_
  simp only at o
  split at o
  · rename_i k
    have := Cfg.top c
    cases this
    refine ⟨k, rfl, ?_⟩
    cases k with
    | false => exact ⟨R1, ts, vs, e, Cfg.pop c, o⟩
    | true => exact o _ R1 H1 ((Cfg.pop c).push rfl)
  · exact o.elim
end
end Fw
set_option Elab.async false
set_option linter.all false
set_option maxRecDepth 100000
set_option maxHeartbeats 1000000
/-! Statements, targets, what is walked, for, while, a def's body. -/
namespace Fw
open PySem PySem.Spec PyProof.Rows L2

@[simp] def ofE (r : Res (Arg × Env)) (k : Arg → Env → SRes) : SRes := match r with
  | .ok p => k p.1 p.2
  | .exc x e => .exc x e
  | .bad => .bad
@[simp] def sSeq (a b : Stx) : Stx := fun env => match a env with
  | .next e => b e
  | .ret s e => .ret s e
  | .brk e => .brk e
  | .cnt e => .cnt e
  | .exc x e => .exc x e
  | .bad => .bad
@[simp] def sNext : Stx := fun env => .next env
@[simp] def sBrk : Stx := fun env => .brk env
@[simp] def sCnt : Stx := fun env => .cnt env
@[simp] def sDrop (f : Ex) : Stx := fun env => ofE (f env) fun _ e => .next e
@[simp] def putS (i : Nat) (s : Sv) (e : Env) : SRes := if i < e.length then .next (e.set i (some s)) else .bad
@[simp] def sSet (i : Nat) (f : Ex) : Stx := fun env => ofE (f env) fun a e => match a with
  | .v s => putS i s e
  | .r _ => .bad
@[simp] def sRet (f : Ex) : Stx := fun env => ofE (f env) fun a e => match a with
  | .v s => .ret s e
  | .r _ => .bad
@[simp] def sRetN : Stx := fun env => .ret (.fz .non) env
@[simp] def sIf (t : Tx) (a b : Stx) : Stx := fun env => match t env with
  | .ok p => if p.1 then a p.2 else b p.2
  | .exc x e => .exc x e
  | .bad => .bad

section
variable {C : Str → Addr} {X : Cx} {W : WX} {P : List Bool}
theorem vb_nil : VB C X W P [] sNext := ⟨fun Z _ => pss_imp pss_nil fun D σ H ⟨R, env, c, o⟩ => o σ R H c⟩
theorem vs_pass {pos} : VS C X W P (.Pass pos) sNext := ⟨fun Z _ => ps_imp ps_pass fun D σ H ⟨R, env, c, o⟩ => o σ R H c⟩
theorem vs_break {pos} : VS C X W P (.Break pos) sBrk := ⟨fun Z _ => ps_imp ps_break fun D σ H ⟨R, env, c, o⟩ => o σ R H c⟩
theorem vs_continue {pos} : VS C X W P (.Continue pos) sCnt := ⟨fun Z _ => ps_imp ps_continue fun D σ H ⟨R, env, c, o⟩ => o σ R H c⟩
theorem vb_cons {st : Stmt} {rest : List Stmt} {a b : Stx} (h1 : VS C X W P st a) (h2 : VB C X W P rest b) : VB C X W P (st :: rest) (sSeq a b) := by
  refine ⟨fun Z pz => pss_imp (pss_cons (h1.run Z pz) (h2.run Z pz)) fun D σ H ⟨R, env, c, o⟩ => ⟨R, env, c, ?_⟩⟩
  unfold sSeq at o
  revert o
  generalize a env = r
  intro o
  match r, o with
  | .next e, o => exact fun σ' R' H' c' => ⟨R', e, c', o⟩
  | .ret s e, o => exact o
  | .brk e, o => exact o
  | .cnt e, o => exact o
  | .exc x e, o => exact o
theorem vb_one {st : Stmt} {a : Stx} (h1 : VS C X W P st a) : VB C X W P [st] a := ⟨fun Z pz => pss_one (h1.run Z pz)⟩
/-- from an expression's reading -/
theorem ofE_bind {Z : Zn} {f : Ex} {k : Arg → Env → SRes} {D : Ends} {σ : L2.St} {H : Hp} {Q : VK} (h : SR (gd X C) Z W (fun env => ofE (f env) k) D σ H)
    (i : ∀ R1 H1 a v e, ArgC (gd X C) Z R1 H1 a v [] [] e σ → OutS (gd X C) Z W D (k a e) → Q v H1) : ER (gd X C) Z W f σ H Q := by
  obtain ⟨R, env, c, o⟩ := h
  refine ⟨R, [], [], env, c, ?_⟩
  revert o
  show OutS (gd X C) Z W D (ofE (f env) k) → _
  generalize f env = r
  intro o
  match r, o with
  | .ok (a, e), o => exact fun v R' H' x => i _ _ _ _ _ x o
  | .exc x e, o => exact o σ
theorem vs_expr {e : Expr} {f : Ex} {pos : Pos} (he : VE C X W e f) (hs : swapsWith e none pos.line X.env = pure false := by rfl) : VS C X W P (.Expr e pos) (sDrop f) :=
  ⟨fun Z _ => ps_imp (ps_expr (he.run Z) hs) fun D σ H h => ofE_bind h fun R1 H1 a v e c o => o σ R1 H1 c.drop⟩
theorem vs_doc {x j pos pos'} : VS C X W P (.Expr (.Constant (.str x) j pos) pos') sNext := ⟨fun Z _ => ps_imp ps_doc fun D σ H ⟨R, env, c, o⟩ => o σ R H c⟩
theorem vs_ret {e : Expr} {f : Ex} {pos : Pos} (he : VE C X W e f) : VS C X W P (.Return (some e) pos) (sRet f) :=
  ⟨fun Z _ => ps_imp (ps_ret (he.run Z)) fun D σ H h => ofE_bind h fun R1 H1 a v e c o => by
    cases a with
    | v s => exact o σ v R1 H1 c
    | r i => exact o.elim⟩
theorem vs_retN {pos : Pos} : VS C X W P (.Return none pos) sRetN := ⟨fun Z _ => ps_imp ps_retN fun D σ H ⟨R, env, c, o⟩ => o σ .non R H (c.push (d := .non) rfl)⟩
theorem vs_if {t : Expr} {a b : List Stmt} {tf : Tx} {f g : Stx} {pos : Pos} (ht : VT C X W t tf) (ha : VB C X W P a f) (hb : VB C X W P b g) : VS C X W P (.If t a b pos) (sIf tf f g) := by
  refine ⟨fun Z pz => ps_imp (ps_if (ht.run Z) (ha.run Z pz) (hb.run Z pz)) fun D σ H ⟨R, env, c, o⟩ => ⟨R, [], [], env, c, ?_⟩⟩
  unfold sIf at o
  revert o
  generalize tf env = r
  intro o
  match r, o with
  | .ok (true, e), o => exact fun R' H' c' => ⟨R', e, c', o⟩
  | .ok (false, e), o => exact fun R' H' c' => ⟨R', e, c', o⟩
  | .exc x e, o => exact o σ
theorem putS_ok {Z : Zn} {R H : Hp} {i : Nat} {s : Sv} {v : V} {e : Env} {σ : L2.St} {D : Ends} (hp : Z.pin i = none) (c : Cfg (gd X C) Z R H [s] [v] e σ) (o : OutS (gd X C) Z W D (putS i s e)) : D.nx (σ.set i (some v)) H := by
  unfold putS at o
  split at o
  · rename_i hi
    exact o _ R H (c.store hi hp)
  · exact o.elim
theorem vs_set {i : Nat} {x : Str} {e : Expr} {f : Ex} {pos pos' : Pos} (hN : X.N.Nodup) (hi : X.N[i]? = some x) (hx : Loc X.env.scope x) (hP : P.getD i false = false) (he : VE C X W e f) (hs : swapsWith e (some (.Name x pos')) pos.line X.env = pure false := by rfl)
    (hf : X.fn x = true ∨ X.env.scope.names.lookup x = some .local := by first | exact .inl rfl | exact .inr rfl | assumption) : VS C X W P (.Assign [.Name x pos'] e pos) (sSet i f) :=
  ⟨fun Z pz => ps_imp (ps_set hN hi hx (he.run Z) hs hf) fun D σ H h => ofE_bind h fun R1 H1 a v e c o => by
    cases a with
    | v s => exact putS_ok (pz i hP) c o
    | r i => exact o.elim⟩

/-! ### targets -/
abbrev Tgt := Dt → Env → Option Env
@[simp] def gNm (i : Nat) : Tgt := fun d e => if i < e.length then some (e.set i (some (.fz d))) else none
@[simp] def gTs : List Tgt → List Dt → Env → Option Env
  | [], [], e => some e
  | g :: gs, d :: ds, e => (g d e).bind fun e1 => gTs gs ds e1
  | _, _, _ => none
@[simp] def gTp (gs : List Tgt) : Tgt := fun d e => match d with
  | .tup ds => gTs gs ds e
  | _ => none
/-- only slots of T are stored into -/
def Only (T : List Nat) (σ σ' : L2.St) : Prop := ∀ own : List Nat, (∀ i ∈ T, i ∈ own) → wipe σ' own = wipe σ own
theorem wipe_set {σ : L2.St} {i : Nat} {o : Option V} : ∀ {own : List Nat}, i ∈ own → wipe (σ.set i o) own = wipe σ own
  | [], h => nomatch h
  | j :: own, h => by
    unfold wipe
    by_cases e : i = j
    · subst e
      by_cases h' : i ∈ own
      · rw [wipe_set h']
      · have : ∀ own : List Nat, wipe (σ.set i o) own = (wipe σ own).set i ((wipe (σ.set i o) own)[i]?.getD none) := fun own => by
          apply List.ext_getElem?
          intro k
          by_cases e : i = k
          · subst e
            by_cases hk : i < σ.length
            · rw [List.getElem?_set_self (by rw [wipe_length]; exact hk)]
              have : i < (wipe (σ.set i o) own).length := by rw [wipe_length, List.length_set]; exact hk
              rw [List.getElem?_eq_getElem this]
              rfl
            · rw [List.getElem?_eq_none (by rw [wipe_length, List.length_set]; omega), List.getElem?_eq_none (by rw [List.length_set, wipe_length]; omega)]
          · rw [List.getElem?_set_ne e]
            clear h h'
            induction own with
            | nil => show (σ.set i o)[k]? = σ[k]?; rw [List.getElem?_set_ne e]
            | cons m own ih =>
              unfold wipe
              by_cases em : m = k
              · subst em
                by_cases hk : m < σ.length
                · rw [List.getElem?_set_self (by rw [wipe_length, List.length_set]; exact hk), List.getElem?_set_self (by rw [wipe_length]; exact hk)]
                · rw [List.getElem?_eq_none (by rw [List.length_set, wipe_length, List.length_set]; omega), List.getElem?_eq_none (by rw [List.length_set, wipe_length]; omega)]
              · rw [List.getElem?_set_ne em, List.getElem?_set_ne em, ih]
        rw [this own, List.set_set]
    · rw [wipe_set ((List.mem_cons.mp h).resolve_left e)]
def GR (G : Gd) (P : List Bool) (T : List Nat) (g : Tgt) : TG := fun v σ H Q => ∃ Z R d env ts vs, Pinned Z P ∧ Cfg G Z R H (.fz d :: ts) (v :: vs) env σ ∧ match g d env with
  | some e => ∀ σ', Cfg G Z R H ts vs e σ' → Only T σ σ' → Q σ' H
  | none => False
structure VG (C : Str → Addr) (X : Cx) (P : List Bool) (T : List Nat) (tg : Expr) (g : Tgt) : Prop where
  run : PG X tg (GR (gd X C) P T g)
def GRs (G : Gd) (P : List Bool) (T : List Nat) (gs : List Tgt) : TGs := fun xs σ H Q => ∃ Z R ds env ts vs, Pinned Z P ∧ Cfg G Z R H ts vs env σ ∧ RpDs G R ds xs ∧ match gTs gs ds env with
  | some e => ∀ σ', Cfg G Z R H ts vs e σ' → Only T σ σ' → Q σ' H
  | none => False
structure VGs (C : Str → Addr) (X : Cx) (P : List Bool) (T : List Nat) (tgs : List Expr) (gs : List Tgt) : Prop where
  run : PGs X tgs (GRs (gd X C) P T gs)
theorem pg_imp {tg : Expr} {t t' : TG} (h : PG X tg t) (i : ∀ v σ H Q, t' v σ H Q → t v σ H Q) : PG X tg t' := ⟨fun pins s σ H v u Q I r q => h.run pins s σ H v u Q I r (i _ _ _ _ q)⟩
theorem pgs_imp {tg : List Expr} {t t' : TGs} (h : PGs X tg t) (i : ∀ v σ H Q, t' v σ H Q → t v σ H Q) : PGs X tg t' := ⟨fun pins s σ H v u Q I r q => h.run pins s σ H v u Q I r (i _ _ _ _ q)⟩
theorem vg_name {i : Nat} {x : Str} {pos : Pos} (hN : X.N.Nodup) (hi : X.N[i]? = some x) (hx : Loc X.env.scope x) (hP : P.getD i false = false) (hf : X.fn x = true ∨ X.env.scope.names.lookup x = some .local := by first | exact .inl rfl | exact .inr rfl | assumption) : VG C X P [i] (.Name x pos) (gNm i) := by
  refine ⟨pg_imp (pg_name hN hi hx hf) fun v σ H Q ⟨Z, R, d, env, ts, vs, pz, c, o⟩ => ?_⟩
  unfold gNm at o
  split at o
  · rename_i e hq
    split at hq
    · rename_i hl
      cases hq
      exact o _ (c.store hl (pz i hP)) fun own h => wipe_set (h i List.mem_cons_self)
    · cases hq
  · exact o.elim
theorem vgs_nil : VGs C X P [] [] [] := by
  refine ⟨pgs_imp pgs_nil fun xs σ H Q ⟨Z, R, ds, env, ts, vs, pz, c, r, o⟩ => ?_⟩
  cases ds with
  | nil => exact ⟨r, o σ c fun _ _ => rfl⟩
  | cons d ds => exact o.elim
theorem vgs_cons {e : Expr} {es : List Expr} {g : Tgt} {gs : List Tgt} {T T' : List Nat} (h1 : VG C X P T e g) (h2 : VGs C X P T' es gs) (hs : (assignEach (e :: es) X.env).map (·.2) = assign e X.env :: (assignEach es X.env).map (·.2) := by rfl) : VGs C X P (T ++ T') (e :: es) (g :: gs) := by
  refine ⟨pgs_imp (pgs_cons h1.run h2.run hs) fun xs σ H Q ⟨Z, R, ds, env, ts, vs, pz, c, r, o⟩ => ?_⟩
  cases ds with
  | nil => exact o.elim
  | cons d ds =>
    obtain ⟨v, vr, e1, r1, r2⟩ := r
    refine ⟨v, vr, e1, Z, R, d, env, ts, vs, pz, c.push r1, ?_⟩
    simp only [gTs] at o
    cases hq : g d env with
    | none => rw [hq] at o; exact o.elim
    | some e2 =>
      rw [hq] at o
      refine fun σ' c' w' => ⟨Z, R, ds, e2, ts, vs, pz, c', r2, ?_⟩
      revert o
      show (match gTs gs ds e2 with | some e => _ | none => _) → _
      cases gTs gs ds e2 with
      | none => exact fun o => o
      | some e3 => exact fun o σ2 c2 w2 => o σ2 c2 fun own h => (w2 own fun i hi => h i (List.mem_append_right _ hi)).trans (w' own fun i hi => h i (List.mem_append_left _ hi))
theorem vg_tup {es : List Expr} {k : Nat} {pos : Pos} {gs : List Tgt} {T : List Nat} (hc : X.calm = true) (h : VGs C X P T es gs) (hn : (assignEach es X.env).length = gs.length := by rfl) (hst : (assignEach es X.env).findIdx? (·.1) = none := by rfl) : VG C X P T (.Tuple es k pos) (gTp gs) := by
  refine ⟨pg_imp (pg_tup hc h.run hn hst) fun v σ H Q ⟨Z, R, d, env, ts, vs, pz, c, o⟩ => ?_⟩
  cases d with
  | tup ds =>
    obtain ⟨a, xs, rfl, ha, r⟩ := c.top
    refine ⟨a, xs, rfl, sqT_mono c.wf ha, ?_, Z, R, ds, env, ts, vs, pz, c.pop, r, o⟩
    have hl : ∀ (gs : List Tgt) (ds : List Dt) (e : Env), gTs gs ds e ≠ none → ds.length = gs.length := by
      intro gs
      induction gs with
      | nil => intro ds e h; cases ds with
        | nil => rfl
        | cons _ _ => exact absurd rfl h
      | cons g gs ih => intro ds e h; cases ds with
        | nil => exact absurd rfl h
        | cons d ds =>
          rw [List.length_cons, List.length_cons]
          simp only [gTs] at h
          cases hq : g d e with
          | none => rw [hq] at h; exact absurd rfl h
          | some e1 => rw [hq] at h; rw [ih ds e1 h]
    rw [← r.len]
    refine hl gs ds env fun z => ?_
    have o : match gTs gs ds env with
      | some e => ∀ σ', Cfg (gd X C) Z R H ts vs e σ' → Only T σ σ' → Q σ' H
      | none => False := o
    rw [z] at o
    exact o.elim
  | _ => exact o.elim
/-- a, b = e -/
@[simp] def sUnp (g : Tgt) (f : Ex) : Stx := fun env => ofE (f env) fun a e => match a with
  | .v (.fz d) => match g d e with
    | some e1 => .next e1
    | none => .bad
  | _ => .bad
theorem vs_unp {tg e : Expr} {f : Ex} {g : Tgt} {T : List Nat} {pos : Pos} (he : VE C X W e f) (hg : VG C X P T tg g) (hs : swapsWithSole [tg] e pos.line X.env = pure false := by rfl) (hw : swappedStores [tg] e X.env = pure none := by rfl)
    (h1 : (assignEach [tg] X.env).map (·.2) = [assign tg X.env] := by rfl) : VS C X W P (.Assign [tg] e pos) (sUnp g f) :=
  ⟨fun Z pz => ps_imp (ps_asg (he.run Z) hg.run hs hw h1) fun D σ H h => ofE_bind h fun R1 H1 a v e c o => by
    cases a with
    | r i => exact o.elim
    | v s =>
      cases s with
      | lst ss => exact o.elim
      | ins _ _ _ => exact o.elim
      | fz d =>
        refine ⟨Z, R1, d, e, [], [], pz, c, ?_⟩
        simp only at o
        cases hq : g d e with
        | none => rw [hq] at o; exact o.elim
        | some e1 => rw [hq] at o; exact fun σ' c' _ => o σ' R1 H1 c'⟩
/-- a, b = x, y -/
@[simp] def sPar (i j : Nat) (fa : Env → Res (List Arg × Env)) : Stx := fun env => match fa env with
  | .ok p => match p.1 with
    | [.v s, .v s'] => if i < p.2.length ∧ j < p.2.length then .next ((p.2.set i (some s)).set j (some s')) else .bad
    | _ => .bad
  | .exc x e => .exc x e
  | .bad => .bad
theorem vs_par {i j : Nat} {x y : Str} {a b : Expr} {fa : Env → Res (List Arg × Env)} {px py pt pos : Pos} {kt k2 pt2} (hc : X.calm = true) (hN : X.N.Nodup) (hi : X.N[i]? = some x) (hj : X.N[j]? = some y) (hij : i ≠ j)
    (hx : X.env.scope.names.lookup x = some .local) (hy : X.env.scope.names.lookup y = some .local) (hPi : P.getD i false = false) (hPj : P.getD j false = false) (ha : VA C X W [a, b] fa)
    (hw : swappedStores [.Tuple [.Name x px, .Name y py] kt pt] (.Tuple [a, b] k2 pt2) X.env = pure (some [x, y]))
    (hs : swapsWithSole [.Tuple [.Name x px, .Name y py] kt pt] (.Tuple [a, b] k2 pt2) pos.line X.env = pure false := by rfl) :
    VS C X W P (.Assign [.Tuple [.Name x px, .Name y py] kt pt] (.Tuple [a, b] k2 pt2) pos) (sPar i j fa) := by
  refine ⟨fun Z pz => ps_imp (ps_par hc hN hi hj hij hx hy (ha.run Z) hw hs) fun D σ H ⟨R, env, c, o⟩ => ⟨R, [], [], env, c, ?_⟩⟩
  unfold sPar at o
  revert o
  generalize fa env = r
  intro o
  match r, o with
  | .exc x e, o => exact o σ
  | .ok (as, e), o =>
    rintro ws R' H' ⟨ss, tw, t, c'⟩
    simp only at o
    split at o
    · rename_i s s'
      split at o
      · rename_i hl
        cases t with
        | v t =>
          cases t with
          | v t =>
            cases t
            rename_i w w'
            refine ⟨w, w', rfl, o _ R' H' ?_⟩
            exact (Cfg.store (c'.store hl.1 (pz i hPi)) (by rw [List.length_set]; exact hl.2) (pz j hPj))
      · exact o.elim
    · exact o.elim
end
end Fw
set_option Elab.async false
set_option linter.all false
set_option maxRecDepth 100000
set_option maxHeartbeats 1000000
/-! What is walked; for, while; the body of a def. -/
namespace Fw
open PySem PySem.Spec PyProof.Rows L2

/-- the loop's own arguments stand as they stood -/
structure Kp (R0 H0 : Hp) (ss : List Sv) (ws : List V) (R H : Hp) : Prop where
  rs : Same R0 R
  sub : Same R H
  at_ : ∀ (k : Nat) l a, ss[k]? = some (.lst l) → ws[k]? = some (.ref a) → H a = H0 a
/-- the iterator J walks the items -/
structure Wk (G : Gd) (R0 H0 : Hp) (ss : List Sv) (ws : List V) (J : It) (items : List Dt) : Prop where
  go : ∀ i R H, Kp R0 H0 ss ws R H → i < items.length → J.go i H
  stop : ∀ i R H, Kp R0 H0 ss ws R H → items.length ≤ i → J.stop i H
  yld : ∀ i Z R H ts vs env σ x H', Kp R0 H0 ss ws R H → i < items.length → Cfg G Z R H ts vs env σ → J.yld i H x H' → ∃ R' d, items[i]? = some d ∧ Cfg G Z R' H' (.fz d :: ts) (x :: vs) env σ
abbrev Ax := Env → Res (List Arg × Env)
def IR (G : Gd) (Z : Zn) (W : WX) (fA : Ax) (gI : List Sv → Option (List Dt)) : TI := fun σ H Rk => ∃ R ts vs env, Cfg G Z R H ts vs env σ ∧ match fA env with
  | .ok p => match takeA p.1 p.2 with
    | some t => match gI t.1 with
      | some items => ∀ J ws ss tw R' H', Tmp σ p.1 ws ss tw → Cfg G Z R' H' (t.1 ++ ts) (ws ++ vs) t.2 σ → t.1.length = ws.length → Wk G R' H' t.1 ws J items → Rk J H'
      | none => False
    | none => False
  | .exc x e => ExW G Z W x e σ
  | .bad => False
structure VI (C : Str → Addr) (X : Cx) (W : WX) (tg iter : Expr) (fA : Ax) (gI : List Sv → Option (List Dt)) : Prop where
  run : ∀ Z, PI X tg iter (IR (gd X C) Z W fA gI)
theorem pi_imp {X : Cx} {tg it : Expr} {t t' : TI} (h : PI X tg it t) (i : ∀ σ H Q, t' σ H Q → t σ H Q) : PI X tg it t' := ⟨fun pins s σ H R I q => h.run pins s σ H R I (i _ _ _ q)⟩

/-! ### the loop -/
def forL (g : Tgt) (body : Stx) : List Dt → Env → SRes
  | [], e => .next e
  | d :: ds, e => match g d e with
    | none => .bad
    | some e1 => match body e1 with
      | .next e2 => forL g body ds e2
      | .cnt e2 => forL g body ds e2
      | .brk e2 => .next e2
      | .ret s e2 => .ret s e2
      | .exc x e2 => .exc x e2
      | .bad => .bad
@[simp] def mapEnv (f : Env → Env) : SRes → SRes
  | .next e => .next (f e)
  | .ret s e => .ret s (f e)
  | .brk e => .brk (f e)
  | .cnt e => .cnt (f e)
  | .exc x e => .exc x (f e)
  | .bad => .bad
@[simp] def refsIn (P : List Bool) (as : List Arg) : Bool := as.all fun a => match a with
  | .v _ => true
  | .r i => P.getD i false
@[simp] def sFor (fA : Ax) (gI : List Sv → Option (List Dt)) (P' : List Bool) (g : Tgt) (body : Stx) : Stx := fun env => match fA env with
  | .ok p => match takeA p.1 p.2 with
    | some t => match gI t.1 with
      | some items => if refsIn P' p.1 then mapEnv (putA p.1 (t.1.map some)) (forL g body items t.2) else .bad
      | none => .bad
    | none => .bad
  | .exc x e => .exc x e
  | .bad => .bad
def whileL (t : Tx) (body : Stx) : Nat → Env → SRes
  | 0, _ => .bad
  | n + 1, e => match t e with
    | .ok p => if p.1 then match body p.2 with
        | .next e2 => whileL t body n e2
        | .cnt e2 => whileL t body n e2
        | .brk e2 => .next e2
        | .ret s e2 => .ret s e2
        | .exc x e2 => .exc x e2
        | .bad => .bad
      else .next p.2
    | .exc x e2 => .exc x e2
    | .bad => .bad
def sWhile (n : Nat) (t : Tx) (body : Stx) : Stx := fun env => whileL t body n env

section
variable {G : Gd} {Z : Zn} {W : WX} {R H : Hp} {ts : List Sv} {vs : List V} {env : Env} {σ : L2.St}
theorem RpSs.root {R H : Hp} : ∀ {ss : List Sv} {ws : List V} {f : Fp} (k : Nat) {l : List Sv} {a : Addr}, RpSs G R H ss ws f → ss[k]? = some (.lst l) → ws[k]? = some (.ref a) → f a ≠ 0 ∧ ∃ o, H a = some o
  | [], _, _, k, _, _, _, h, _ => by simp at h
  | s :: ss, _, _, 0, l, a, ⟨v, vr, g, k, e, h, r, z⟩, hs, hw => by
    subst e
    have e1 : s = .lst l := Option.some.inj hs
    have e2 : v = .ref a := Option.some.inj hw
    subst e1 e2
    obtain ⟨a', ws, g', e3, ha, _, z'⟩ := h
    cases e3
    exact ⟨by rw [z, z', if_pos rfl]; omega, _, ha⟩
  | s :: ss, _, _, n + 1, l, a, ⟨v, vr, g, k, e, h, r, z⟩, hs, hw => by
    subst e
    obtain ⟨q1, q2⟩ := RpSs.root n r (by simpa using hs) (by simpa using hw)
    exact ⟨by rw [z]; omega, q2⟩
theorem Cfg.rebaseP (P' : Nat → Option V) (hP : ∀ j v, P' j = some v → σ[j]? = some (some v)) (hZ : ∀ j v, Z.pin j = some v → P' j = some v) (c : Cfg G Z R H ts vs env σ) : ∃ ft fe : Fp, RpSs G R H ts vs ft ∧ Cfg G ⟨R, H, fe, P'⟩ R H [] [] env σ ∧
    ∀ {R' H' ts' vs' env' σ'}, Cfg G ⟨R, H, fe, P'⟩ R' H' ts' vs' env' σ' → Cfg G Z R' H' (ts' ++ ts) (vs' ++ vs) env' σ' ∧ Same R R' ∧ ∀ a o, ft a ≠ 0 → H a = some o → H' a = some o := by
  obtain ⟨⟨ft, fe, h1, h2, w, t⟩, pn⟩ := c
  refine ⟨ft, fe, h1, ⟨⟨fun _ => 0, fe, ⟨rfl, fun _ => rfl⟩, h2, w.less fun b => by show 0 + fe b ≤ _; omega, Tr.refl.less fun b => by show 0 + fe b ≤ fe b; omega⟩, hP⟩, ?_⟩
  rintro R' H' ts' vs' env' σ' ⟨⟨ft', fe', k1, k2, w', t'⟩, pn'⟩
  have keep : ∀ a o, ft a ≠ 0 → H a = some o → H' a = some o := fun a o h e => t'.keep a o e (by
    have : ft a + fe a ≤ 1 := w.one a
    show fe a = 0
    omega)
  have eq : ∀ b, ft' b + ft b + fe' b = ft b + (ft' b + fe' b) := fun b => by omega
  refine ⟨⟨⟨fun b => ft' b + ft b, fe', RpSs.join (h1.mono t'.rs keep) k1, k2, (w.frame w' t').same eq, ((t.trans (Tr.frame (g := ft) t')).less fun b => Nat.le_of_eq (eq b))⟩, fun j v e => pn' j v (hZ j v e)⟩, t'.rs, keep⟩
theorem Tmp.move {as : List Arg} {ws : List V} {ss : List Sv} {tw : List V} {σ' : L2.St} (t : Tmp σ as ws ss tw) (h : ∀ i w, Arg.r i ∈ as → σ[i]? = some (some w) → σ'[i]? = some (some w)) : Tmp σ' as ws ss tw := by
  induction t with
  | nil => exact .nil
  | v t ih => exact .v (ih fun i w hm => h i w (List.mem_cons_of_mem _ hm))
  | r hi t ih => exact .r (h _ _ List.mem_cons_self hi) (ih fun i w hm => h i w (List.mem_cons_of_mem _ hm))
end

section
variable {C : Str → Addr} {X : Cx} {W : WX} {P P' : List Bool} {pos : Pos}
def SRe (G : Gd) (P : List Bool) (W : WX) (f : Stx) : TS := fun D σ H => ∃ Z, Pinned Z P ∧ SR G Z W f D σ H
theorem VB.any {st : List Stmt} {f : Stx} (h : VB C X W P st f) : PSs X st (SRe (gd X C) P W f) := ⟨fun pins s σ H D I ⟨Z, pz, q⟩ => (h.run Z pz).run pins s σ H D I q⟩
/-- pins of the slots that a body leaves alone -/
def pinOf (P' : List Bool) (σ : L2.St) : Nat → Option V := fun j => if P'.getD j false = true then (σ[j]?).getD none else none
theorem pinOf_ok {σ : L2.St} : ∀ j v, pinOf P' σ j = some v → σ[j]? = some (some v) := fun j v h => by
  unfold pinOf at h
  split at h
  · cases q : σ[j]? with
    | none => rw [q] at h; cases h
    | some o => rw [q] at h; have : o = some v := h; rw [this]
  · cases h
theorem pinOf_at {σ : L2.St} {j : Nat} {v : V} (h : P'.getD j false = true) (e : σ[j]? = some (some v)) : pinOf P' σ j = some v := by
  unfold pinOf
  rw [if_pos h, e]
  rfl
theorem pinOf_pinned {σ : L2.St} {R H : Hp} {f : Fp} : Pinned ⟨R, H, f, pinOf P' σ⟩ P' := fun j h => by
  show pinOf P' σ j = none
  unfold pinOf
  rw [if_neg (by rw [h]; exact Bool.false_ne_true)]
theorem refs_at {P' : List Bool} {as : List Arg} (h : refsIn P' as = true) {i : Nat} (hm : Arg.r i ∈ as) : P'.getD i false = true := List.all_eq_true.mp h _ hm
theorem vs_for {tg iter : Expr} {body : List Stmt} {fA : Ax} {gI : List Sv → Option (List Dt)} {g : Tgt} {T : List Nat} {fb : Stx} (hp : PassesOwn (model X.prog X.w) X.A X.env X.xe) (hc : X.calm = true) (hi : VI C X W tg iter fA gI) (hg : VG C X P' T tg g) (hb : VB C X W P' body fb)
    (hPP : ∀ j, P.getD j false = true → P'.getD j false = true) (hs : ∀ x, foldedSetIterable iter X.env x = pure x := by intro _; rfl) : VS C X W P (.For tg iter body [] pos) (sFor fA gI P' g fb) := by
  refine ⟨fun Z pz => ps_imp (ps_for hp hc (hi.run Z) hg.run hb.any hs) fun D σ H ⟨R, env, c, o⟩ => ⟨R, [], [], env, c, ?_⟩⟩
  unfold sFor at o
  revert o
  generalize fA env = r
  intro o
  match r, o with
  | .exc x e, o => exact o σ
  | .bad, o => exact o
  | .ok (as, e), o =>
    simp only at o ⊢
    cases ht : takeA as e with
    | none => rw [ht] at o; exact o
    | some t =>
      obtain ⟨ss, e1⟩ := t
      rw [ht] at o
      simp only at o ⊢
      cases hq : gI ss with
      | none => rw [hq] at o; exact o
      | some items =>
        rw [hq] at o
        simp only at o ⊢
        by_cases hr : refsIn P' as = true
        · rw [if_pos hr] at o
          intro J ws ss0 tw R1 H1 t1 c1 hl wk
          -- the body's own beginning
          have hZ : ∀ j v, Z.pin j = some v → pinOf P' σ j = some v := fun j v hj => pinOf_at (hPP j (by
            cases hq : P.getD j false with
            | true => rfl
            | false => rw [pz j hq] at hj; cases hj)) (c1.pin j v hj)
          obtain ⟨ft, fe, h1, c2, back⟩ := c1.rebaseP (pinOf P' σ) pinOf_ok hZ
          rw [List.append_nil, List.append_nil] at h1
          have kp : ∀ {R' H' ts' vs' env' σ'}, Cfg (gd X C) ⟨R1, H1, fe, pinOf P' σ⟩ R' H' ts' vs' env' σ' → Kp R1 H1 ss ws R' H' := fun {R' H' ts' vs' env' σ'} c' => by
            obtain ⟨c3, e3, k3⟩ := back c'
            refine ⟨e3, c'.wf, fun k l a hs hw => ?_⟩
            obtain ⟨q1, q2, q3⟩ := RpSs.root k h1 hs hw
            rw [k3 a q2 q1 q3, q3]
          have ret : ∀ {R' H' ts' vs' env' σ'}, Cfg (gd X C) ⟨R1, H1, fe, pinOf P' σ⟩ R' H' ts' vs' env' σ' → Cfg (gd X C) Z R' H' ts' vs' (putA as (ss.map some) env') σ' := fun {R' H' ts' vs' env' σ'} c' => by
            obtain ⟨c3, e3, k3⟩ := back c'
            have t2 : Tmp σ' as ws ss0 tw := t1.move fun i w hm hv => c'.pin i w (pinOf_at (refs_at hr hm) hv)
            rw [List.append_nil, List.append_nil] at c3
            obtain ⟨_, _, k1, _⟩ := c'.ex
            refine put_ok t2 hl (ts := ts') (vs := vs') (c3.reord fun g hg => ?_)
            obtain ⟨g1, g2, r1, r2, z⟩ := RpSs.split' k1.len hg
            refine ⟨_, RpSs.join r1 r2, fun b => ?_⟩
            have := z b
            show g2 b + g1 b ≤ g b
            omega
          refine ⟨fun i m σ' H' => m = items.length - i ∧ i ≤ items.length ∧ ∃ R' env', Cfg (gd X C) ⟨R1, H1, fe, pinOf P' σ⟩ R' H' [] [] env' σ' ∧ OutS (gd X C) Z W D (mapEnv (putA as (ss.map some)) (forL g fb (items.drop i) env')), ⟨items.length, by simp, Nat.zero_le _, R1, e1, c2, o⟩, ?_⟩
          rintro i m σ' H' ⟨rfl, hil, R', env', c', o'⟩
          by_cases hlt : i < items.length
          · refine .inr ⟨wk.go i R' H' (kp c') hlt, fun σ2 H2 => ∃ R2 env2, Cfg (gd X C) ⟨R1, H1, fe, pinOf P' σ⟩ R2 H2 [] [] env2 σ2 ∧ OutS (gd X C) Z W D (mapEnv (putA as (ss.map some)) (forL g fb (items.drop (i + 1)) env2)), fun σ2 H2 ⟨R2, env2, c4, o4⟩ => ⟨items.length - (i + 1), by omega, rfl, by omega, R2, env2, c4, o4⟩, fun x H2 hy => ?_⟩
            obtain ⟨R2, d, hd, c3⟩ := wk.yld i _ R' H' [] [] env' σ' x H2 (kp c') hlt c' hy
            rw [show items.drop i = d :: items.drop (i + 1) from by
              obtain ⟨_, e⟩ := List.getElem?_eq_some_iff.mp hd
              rw [← e]
              exact List.drop_eq_getElem_cons hlt] at o'
            simp only [forL] at o'
            refine ⟨_, R2, d, env', [], [], pinOf_pinned, c3, ?_⟩
            cases hgd : g d env' with
            | none => rw [hgd] at o'; exact o'
            | some e3 =>
              rw [hgd] at o'
              simp only at o' ⊢
              intro σ3 c4 _
              refine ⟨_, pinOf_pinned, R2, e3, c4, ?_⟩
              revert o'
              generalize fb e3 = rb
              intro o'
              match rb, o' with
              | .next e5, o' => exact fun σ5 R5 H5 c5 => ⟨R5, e5, c5, o'⟩
              | .cnt e5, o' => exact fun σ5 R5 H5 c5 => ⟨R5, e5, c5, o'⟩
              | .brk e5, o' => exact fun σ5 R5 H5 c5 => o' σ5 R5 H5 (ret c5)
              | .ret s e5, o' => exact fun σ5 v R5 H5 c5 => o' σ5 v R5 H5 (ret c5)
              | .exc x e5, o' => exact fun σ5 c d R5 H5 hx c5 => o' σ5 c d R5 H5 hx (ret c5)
          · have e : i = items.length := by omega
            subst e
            rw [List.drop_length] at o'
            exact .inl ⟨wk.stop _ R' H' (kp c') (Nat.le_refl _), o' σ' R' H' (ret c')⟩
        · rw [if_neg hr] at o
          exact o.elim
theorem VT.any {t : Expr} {tf : Tx} (h : VT C X W t tf) : PT X t fun σ H Q => ∃ Z, TTR (gd X C) Z W tf σ H Q := ⟨fun pins s σ H Q I ⟨Z, q⟩ => (h.run Z).run pins s σ H Q I q⟩
theorem vs_while {t : Expr} {body : List Stmt} {tf : Tx} {fb : Stx} (n : Nat) (hp : PassesOwn (model X.prog X.w) X.A X.env X.xe) (ht : VT C X W t tf) (hb : VB C X W P body fb) : VS C X W P (.While t body [] pos) (sWhile n tf fb) := by
  refine ⟨fun Z pz => ps_imp (ps_while hp (ht.run Z) (hb.run Z pz)) fun D σ H ⟨R, env, c, o⟩ => ?_⟩
  refine ⟨fun m σ' H' => ∃ R' env', Cfg (gd X C) Z R' H' [] [] env' σ' ∧ OutS (gd X C) Z W D (whileL tf fb m env'), ⟨n, R, env, c, o⟩, ?_⟩
  rintro m σ' H' ⟨R', env', c', o'⟩
  cases m with
  | zero => exact o'.elim
  | succ m =>
    refine ⟨R', [], [], env', c', ?_⟩
    simp only [whileL] at o'
    revert o'
    generalize tf env' = r
    intro o'
    match r, o' with
    | .exc x e, o' => exact o' σ'
    | .bad, o' => exact o'
    | .ok (false, e), o' => exact fun R2 H2 c2 => o' σ' R2 H2 c2
    | .ok (true, e), o' =>
      intro R2 H2 c2
      simp only [if_true] at o' ⊢
      refine ⟨fun σ3 H3 => ∃ R3 env3, Cfg (gd X C) Z R3 H3 [] [] env3 σ3 ∧ OutS (gd X C) Z W D (whileL tf fb m env3), fun σ3 H3 q => ⟨m, Nat.lt_succ_self m, q⟩, R2, e, c2, ?_⟩
      revert o'
      generalize fb e = rb
      intro o'
      match rb, o' with
      | .next e5, o' => exact fun σ5 R5 H5 c5 => ⟨R5, e5, c5, o'⟩
      | .cnt e5, o' => exact fun σ5 R5 H5 c5 => ⟨R5, e5, c5, o'⟩
      | .brk e5, o' => exact o'
      | .ret s e5, o' => exact o'
      | .exc x e5, o' => exact o'
end

/-! ### a def -/
@[simp] def maskE : List Bool → Env → Env
  | [], _ => []
  | b :: bs, [] => none :: maskE bs []
  | b :: bs, x :: e => (if b then x else none) :: maskE bs e
/-- a def of n names by its body: its parameters by P (false: stored into) -/
@[simp] def fnSem (n : Nat) (P : List Bool) (f : Stx) : Fn := fun ss => if ss.length = P.length then match f (ss.map some ++ List.replicate (n - ss.length) none) with
  | .next e => .ok (.fz .non, maskE P e)
  | .ret s e => .ok (s, maskE P e)
  | .exc x e => .exc x (maskE P e)
  | _ => .bad
  else .bad
section
variable {G : Gd} {R H : Hp}
theorem EnvRp.mask : ∀ {P : List Bool} {e : Env} {σ : L2.St} {f : Fp} {vs : List V}, EnvRp G R H e σ f → vs.length = P.length → (∀ (j : Nat) v, P[j]? = some true → vs[j]? = some v → σ[j]? = some (some v)) →
    ∃ k : Fp, EnvRp G R H (maskE P e) (vs.map some) k ∧ ∀ b, k b ≤ f b
  | [], e, σ, f, vs, h, hl, hv => by
    cases vs with
    | nil => exact ⟨fun _ => 0, ⟨rfl, fun _ => rfl⟩, fun b => Nat.zero_le _⟩
    | cons _ _ => cases hl
  | b :: bs, [], σ, f, vs, h, hl, hv => by
    cases vs with
    | nil => cases hl
    | cons v vs =>
      obtain ⟨e1, z⟩ := h
      subst e1
      obtain ⟨k, k1, k2⟩ := EnvRp.mask (P := bs) (e := []) (σ := []) (f := f) (vs := vs) ⟨rfl, z⟩ (by simpa using hl) (fun j v hj hv' => absurd (hv (j + 1) v (by simpa using hj) (by simpa using hv')) (by simp))
      exact ⟨k, ⟨some v, _, rfl, k1⟩, k2⟩
  | b :: bs, none :: e, σ, f, vs, h, hl, hv => by
    cases vs with
    | nil => cases hl
    | cons v vs =>
      obtain ⟨x, σr, e1, r⟩ := h
      subst e1
      obtain ⟨k, k1, k2⟩ := EnvRp.mask (P := bs) r (by simpa using hl) (fun j v hj hv' => by simpa using hv (j + 1) v (by simpa using hj) (by simpa using hv'))
      have : (if b = true then (none : Option Sv) else none) = none := by cases b <;> rfl
      exact ⟨k, by show EnvRp G R H ((if b = true then none else none) :: maskE bs e) _ k; rw [this]; exact ⟨some v, _, rfl, k1⟩, k2⟩
  | b :: bs, some s :: e, σ, f, vs, h, hl, hv => by
    cases vs with
    | nil => cases hl
    | cons v vs =>
      obtain ⟨v0, σr, g, k0, e1, hs, r, z⟩ := h
      subst e1
      obtain ⟨k, k1, k2⟩ := EnvRp.mask (P := bs) r (by simpa using hl) (fun j v hj hv' => by simpa using hv (j + 1) v (by simpa using hj) (by simpa using hv'))
      cases b with
      | false => exact ⟨k, ⟨some v, _, rfl, k1⟩, fun b => by have := k2 b; rw [z]; omega⟩
      | true =>
        have e2 : v0 = v := by
          have := hv 0 v rfl rfl
          exact Option.some.inj (Option.some.inj this)
        subst e2
        exact ⟨fun b => g b + k b, ⟨v0, _, g, k, rfl, hs, k1, fun _ => rfl⟩, fun b => by have := k2 b; show g b + k b ≤ f b; rw [z]; omega⟩
theorem EnvRp.start {n : Nat} : ∀ {ss : List Sv} {vs : List V} {f : Fp}, RpSs G R H ss vs f → EnvRp G R H (ss.map some ++ List.replicate n none) (vs.map some ++ List.replicate n none) f
  | [], vs, f, ⟨e, z⟩ => by
    subst e
    show EnvRp G R H (List.replicate n none) (List.replicate n none) f
    induction n with
    | zero => exact ⟨rfl, z⟩
    | succ n ih => exact ⟨none, _, rfl, ih⟩
  | s :: ss, _, _, ⟨v, vr, g, k, e, h, r, z⟩ => by
    subst e
    exact ⟨v, _, g, k, rfl, h, EnvRp.start r, z⟩
end
theorem fn_ok {C : Str → Addr} {P : Program} {w : World} {K : PySem.W.Frag} {mg : Str → Option Value} {base : Heap} {x qual : Str} {params : Arguments} {body : List Stmt} {scope : Scope} {kws : List (Str × V)} {dvs : List V} {f : Addr} {fd : FuncData} {N ps : List Str} {k : Nat} {pin : List Bool} {fb : Stx}
    (F : FunD K x qual params body scope dvs kws f fd) (S : FnScope N ps scope) (hl : pin.length = ps.length) (hN : ps.length ≤ N.length)
    (hb : ∀ (cdv : Value) (A : Around) (outer : List PySem.Env) (s : Shared) (H : Hp) (E : XK), Room k (A.deeper (envOfC qual scope s.heap.objs.size f cdv)) →
      VB C (cxOf (L2.CX P w) P w K mg base N qual scope f cdv A outer s H E) (fun c d _ H' => E c d H') pin body fb) :
    FnOk P w K mg base (L2.CX P w) (k + 1) f fd ps (FSp ⟨P, w, K, C⟩ (fnSem N.length pin fb)) := by
  refine F.ok S (fun vs H Q E h => ?_) fun cdv A outer s H vs Q E hr h => ?_
  · obtain ⟨R, ss, f, h1, _, h3⟩ := h
    unfold fnSem at h3
    split at h3
    · rename_i he
      rw [← h1.len, he, hl]
    · exact h3.elim
  · obtain ⟨R, ss, fp, h1, w1, h3⟩ := h
    unfold fnSem at h3
    split at h3
    · rename_i he
      have hvl : vs.length = pin.length := by rw [← h1.len, he]
      have q0 : EnvRp ⟨P, w, K, C⟩ R H (ss.map some ++ List.replicate (N.length - ss.length) none) (L2.start N vs) fp := by
        unfold L2.start
        rw [← h1.len]
        exact EnvRp.start h1
      refine ⟨_, (hb cdv A outer s H E hr).run ⟨R, H, fp, fun j => if pin.getD j false = true then vs[j]? else none⟩ (fun j hj => by
        show (if pin.getD j false = true then vs[j]? else none) = none
        rw [if_neg (by rw [hj]; exact Bool.false_ne_true)]), R, _, ⟨⟨fun _ => 0, fp, ⟨rfl, fun _ => rfl⟩, q0, w1.less fun b => by show 0 + fp b ≤ _; omega, Tr.refl.less fun b => by show 0 + fp b ≤ fp b; omega⟩, fun j v hj => ?_⟩, ?_⟩
      · have hj : (if pin.getD j false = true then vs[j]? else none) = some v := hj
        split at hj
        · show (vs.map some ++ List.replicate (N.length - vs.length) none)[j]? = some (some v)
          rw [List.getElem?_append_left (by rw [List.length_map]; exact (List.getElem?_eq_some_iff.mp hj).1), List.getElem?_map, hj]
          rfl
        · cases hj
      · revert h3
        generalize fb (ss.map some ++ List.replicate (N.length - ss.length) none) = r
        intro h3
        have pinned : ∀ {σ' : L2.St} {ts vs' e R' H'}, Cfg ⟨P, w, K, C⟩ ⟨R, H, fp, fun j => if pin.getD j false = true then vs[j]? else none⟩ R' H' ts vs' e σ' → ∀ (j : Nat) v, pin[j]? = some true → vs[j]? = some v → σ'[j]? = some (some v) := fun {σ' ts vs' e R' H'} c j v hj hv => by
          refine c.pin j v ?_
          show (if pin.getD j false = true then vs[j]? else none) = some v
          rw [List.getD_eq_getElem?_getD, hj]
          exact hv
        match r, h3 with
        | .next e, h3 =>
          intro σ' R' H' c
          have c0 := pinned c
          obtain ⟨⟨ft, fe, k1, k2, w', t'⟩, pn⟩ := c
          obtain ⟨_, z⟩ := k1
          obtain ⟨k, k3, k4⟩ := k2.mask hvl c0
          have le : ∀ b, 0 + k b ≤ ft b + fe b := fun b => by have := k4 b; omega
          exact h3 .non R' H' (fun _ => 0) k ⟨rfl, fun _ => rfl⟩ k3 (w'.less le) (t'.less le)
        | .ret s0 e, h3 =>
          intro σ' v R' H' c
          have c0 := pinned c
          obtain ⟨⟨ft, fe, ⟨v', vr, g, k', e1, q1, ⟨_, z2⟩, z⟩, k2, w', t'⟩, pn⟩ := c
          cases e1
          obtain ⟨k, k3, k4⟩ := k2.mask hvl c0
          have le : ∀ b, g b + k b ≤ ft b + fe b := fun b => by have := k4 b; have := z b; omega
          exact h3 v R' H' g k q1 k3 (w'.less le) (t'.less le)
        | .exc x e, h3 =>
          intro σ' c d R' H' hx cc
          have c0 := pinned cc
          obtain ⟨⟨ft, fe, k1, k2, w', t'⟩, pn⟩ := cc
          obtain ⟨k, k3, k4⟩ := k2.mask hvl c0
          have le : ∀ b, k b ≤ ft b + fe b := fun b => by have := k4 b; omega
          exact h3 c d R' H' k hx k3 (w'.less le) (t'.less le)
    · exact h3.elim
end Fw
set_option Elab.async false
set_option linter.all false
set_option maxRecDepth 100000
set_option maxHeartbeats 1000000
/-! List comprehensions with one and two clauses. -/
namespace Fw
open PySem PySem.Spec PyProof.Rows L2

@[simp] def wipeE (env : Env) : List Nat → Env
  | [] => env
  | v :: vs => (wipeE env vs).set v none
@[simp] def restE (e0 e : Env) : List Nat → Env
  | [] => e
  | i :: own => match e0[i]? with
    | some (some (.fz d)) => (restE e0 e own).set i (some (.fz d))
    | _ => restE e0 e own
def compL (g : Tgt) (t : Tx) (elt : Ex) (own : List Nat) : List Dt → Env → Res (List Sv × Env)
  | [], e => .ok ([], e)
  | d :: ds, e => match g d e with
    | none => .bad
    | some e1 => match t e1 with
      | .ok p => if p.1 then match elt p.2 with
          | .ok (.v s, e3) => (compL g t elt own ds (wipeE e3 own)).bind fun r => .ok (s :: r.1, r.2)
          | _ => .bad
        else compL g t elt own ds (wipeE p.2 own)
      | _ => .bad
@[simp] def refsOut (own : List Nat) (as : List Arg) : Bool := as.all fun a => match a with
  | .v _ => true
  | .r i => !own.contains i
@[simp] def eLc (fA : Ax) (gI : List Sv → Option (List Dt)) (own : List Nat) (g : Tgt) (t : Tx) (elt : Ex) : Ex := fun env => match fA env with
  | .ok p => match takeA p.1 p.2 with
    | some q => match gI q.1 with
      | some items => match compL g t elt own items (wipeE q.2 own) with
        | .ok r => if r.1.length ≤ sizeLine then .ok (.v (.lst r.1), putA p.1 (q.1.map some) (restE q.2 (wipeE r.2 own) own)) else .bad
        | _ => .bad
      | none => .bad
    | none => .bad
  | .exc x e => .exc x e
  | .bad => .bad
def compL2 (g : Tgt) (t : Tx) (fA1 : Ax) (gI1 : List Sv → Option (List Dt)) (g1 : Tgt) (t1 : Tx) (elt : Ex) (own vs1 : List Nat) : List Dt → Env → Res (List Sv × Env)
  | [], e => .ok ([], e)
  | d :: ds, e => match g d e with
    | none => .bad
    | some e1 => match t e1 with
      | .ok p => if p.1 then match fA1 p.2 with
          | .ok a => match takeA a.1 a.2 with
            | some q => match gI1 q.1 with
              | some items1 => match compL g1 t1 elt vs1 items1 (wipeE q.2 vs1) with
                | .ok r1 => (compL2 g t fA1 gI1 g1 t1 elt own vs1 ds (wipeE (putA a.1 (q.1.map some) (wipeE r1.2 vs1)) own)).bind fun r => .ok (r1.1 ++ r.1, r.2)
                | _ => .bad
              | none => .bad
            | none => .bad
          | _ => .bad
        else compL2 g t fA1 gI1 g1 t1 elt own vs1 ds (wipeE p.2 own)
      | _ => .bad
def eLc2 (fA : Ax) (gI : List Sv → Option (List Dt)) (own vs1 : List Nat) (g : Tgt) (t : Tx) (fA1 : Ax) (gI1 : List Sv → Option (List Dt)) (g1 : Tgt) (t1 : Tx) (elt : Ex) : Ex := fun env => match fA env with
  | .ok p => match takeA p.1 p.2 with
    | some q => match gI q.1 with
      | some items => match compL2 g t fA1 gI1 g1 t1 elt own vs1 items (wipeE q.2 own) with
        | .ok r => if r.1.length ≤ sizeLine then .ok (.v (.lst r.1), putA p.1 (q.1.map some) (restE q.2 (wipeE r.2 own) own)) else .bad
        | _ => .bad
      | none => .bad
    | none => .bad
  | .exc x e => .exc x e
  | .bad => .bad
@[simp] def tYesX : Tx := fun e => .ok (true, e)
abbrev Wno : WX := fun _ _ _ _ => False

section
variable {G : Gd} {Z : Zn} {W : WX} {R H : Hp} {ts : List Sv} {vs : List V} {env : Env} {σ : L2.St}
theorem wipe_wipe (σ : L2.St) (own : List Nat) : wipe (wipe σ own) own = wipe σ own := by
  have h : ∀ l : List Nat, (∀ i ∈ l, i ∈ own) → wipe (wipe σ l) own = wipe σ own := fun l => by
    induction l with
    | nil => intro _; rfl
    | cons i l ih => intro hm; show wipe ((wipe σ l).set i none) own = _; rw [wipe_set (hm i List.mem_cons_self)]; exact ih fun j hj => hm j (List.mem_cons_of_mem _ hj)
  exact h own fun _ h => h
theorem EnvRp.wipe1 : ∀ {env : Env} {σ : L2.St} {f : Fp} (i : Nat), EnvRp G R H env σ f → ∃ k : Fp, EnvRp G R H (env.set i none) (σ.set i none) k ∧ ∀ b, k b ≤ f b
  | [], σ, f, i, ⟨e, z⟩ => by subst e; exact ⟨f, ⟨rfl, z⟩, fun b => Nat.le_refl _⟩
  | none :: e, σ, f, 0, ⟨x, σr, q, r⟩ => by subst q; exact ⟨f, ⟨none, σr, rfl, r⟩, fun b => Nat.le_refl _⟩
  | some s :: e, σ, f, 0, ⟨v, σr, g, k, q, h, r, z⟩ => by subst q; exact ⟨k, ⟨none, σr, rfl, r⟩, fun b => by rw [z]; omega⟩
  | none :: e, σ, f, i + 1, ⟨x, σr, q, r⟩ => by
    subst q
    obtain ⟨k, k1, k2⟩ := EnvRp.wipe1 i r
    exact ⟨k, ⟨x, _, rfl, k1⟩, k2⟩
  | some s :: e, σ, f, i + 1, ⟨v, σr, g, k0, q, h, r, z⟩ => by
    subst q
    obtain ⟨k, k1, k2⟩ := EnvRp.wipe1 i r
    exact ⟨fun b => g b + k b, ⟨v, _, g, k, rfl, h, k1, fun _ => rfl⟩, fun b => by have := k2 b; show g b + k b ≤ f b; rw [z]; omega⟩
theorem EnvRp.wipe {env : Env} {σ : L2.St} {f : Fp} (h : EnvRp G R H env σ f) : ∀ own : List Nat, ∃ k : Fp, EnvRp G R H (wipeE env own) (L2.wipe σ own) k ∧ ∀ b, k b ≤ f b
  | [] => ⟨f, h, fun b => Nat.le_refl _⟩
  | i :: own => by
    obtain ⟨k, k1, k2⟩ := EnvRp.wipe h own
    obtain ⟨l, l1, l2⟩ := k1.wipe1 i
    exact ⟨l, l1, fun b => Nat.le_trans (l2 b) (k2 b)⟩
theorem Cfg.wipe (c : Cfg G Z R H ts vs env σ) (own : List Nat) (hp : ∀ j, Z.pin j = none) : Cfg G Z R H ts vs (wipeE env own) (L2.wipe σ own) := by
  obtain ⟨⟨ft, fe, h1, h2, w, t⟩, pn⟩ := c
  obtain ⟨k, k1, k2⟩ := h2.wipe own
  have le : ∀ b, ft b + k b ≤ ft b + fe b := fun b => by have := k2 b; omega
  exact ⟨⟨ft, k, h1, k1, w.less le, t.less le⟩, fun j v e => by rw [hp j] at e; cases e⟩
/-- only what the slots hold counts -/
theorem EnvRp.agree : ∀ {env : Env} {σ σ' : L2.St} {f : Fp}, EnvRp G R H env σ f → σ.length = σ'.length → (∀ (j : Nat), σ[j]? = σ'[j]? ∨ env[j]? = some none) → EnvRp G R H env σ' f
  | [], σ, σ', f, ⟨e, z⟩, hl, _ => by
    subst e
    cases σ' with
    | nil => exact ⟨rfl, z⟩
    | cons _ _ => cases hl
  | none :: e, σ, σ', f, ⟨x, σr, q, r⟩, hl, h => by
    subst q
    cases σ' with
    | nil => cases hl
    | cons y σ' => exact ⟨y, σ', rfl, EnvRp.agree r (by simpa using hl) fun j => by simpa using h (j + 1)⟩
  | some s :: e, σ, σ', f, ⟨v, σr, g, k, q, hs, r, z⟩, hl, h => by
    subst q
    cases σ' with
    | nil => cases hl
    | cons y σ' =>
      rcases h 0 with h0 | h0
      · have : y = some v := by simpa using h0.symm
        subst this
        exact ⟨v, σ', g, k, rfl, hs, EnvRp.agree r (by simpa using hl) fun j => by simpa using h (j + 1), z⟩
      · simp at h0
theorem wipeE_len (env : Env) : ∀ own : List Nat, (wipeE env own).length = env.length
  | [] => rfl
  | v :: vs => by unfold wipeE; rw [List.length_set, wipeE_len env vs]
theorem wipeE_at {env : Env} {j : Nat} : ∀ {own : List Nat}, j ∈ own → j < env.length → (wipeE env own)[j]? = some none
  | [], h, _ => nomatch h
  | v :: vs, h, hl => by
    unfold wipeE
    by_cases e : v = j
    · subst e; rw [List.getElem?_set_self (by rw [wipeE_len]; exact hl)]
    · rw [List.getElem?_set_ne e]
      exact wipeE_at ((List.mem_cons.mp h).resolve_left fun z => e z.symm) hl
/-- back to the slots as they stood -/
theorem Cfg.unwipe {own : List Nat} (c : Cfg G Z R H ts vs env (L2.wipe σ own)) (hp : ∀ j, Z.pin j = none) : Cfg G Z R H ts vs (wipeE env own) σ := by
  have c' := c.wipe own hp
  rw [wipe_wipe] at c'
  obtain ⟨⟨ft, fe, h1, h2, w, t⟩, pn⟩ := c'
  refine ⟨⟨ft, fe, h1, h2.agree (wipe_length σ own) fun j => ?_, w, t⟩, fun j v e => by rw [hp j] at e; cases e⟩
  by_cases hj : j ∈ own
  · by_cases hl : j < env.length
    · exact .inr (wipeE_at hj hl)
    · refine .inl ?_
      have e1 := c.len
      rw [wipe_length] at e1
      rw [List.getElem?_eq_none (by rw [wipe_length]; omega), List.getElem?_eq_none (by omega)]
  · exact .inl (wipe_out hj)
theorem Cfg.rest {e0 : Env} (h : ∀ (i : Nat) d, e0[i]? = some (some (.fz d)) → ∃ v, σ[i]? = some (some v) ∧ RpD G R d v) (c : Cfg G Z R H ts vs env σ) : ∀ own : List Nat, Cfg G Z R H ts vs (restE e0 env own) σ
  | [] => c
  | i :: own => by
    have ih := Cfg.rest h c own
    unfold restE
    split
    · rename_i d hd
      obtain ⟨v, hv, r⟩ := h i d hd
      exact (ih.push r).back hv
    · exact ih
/-- a new beginning; ts2 is kept aside -/
theorem Cfg.aside {ts1 ts2 : List Sv} {vs1 vs2 : List V} (hl : ts1.length = vs1.length) (c : Cfg G Z R H (ts1 ++ ts2) (vs1 ++ vs2) env σ) : ∃ ft fe : Fp, RpSs G R H ts2 vs2 ft ∧ Cfg G ⟨R, H, fe, fun _ => none⟩ R H ts1 vs1 env σ ∧
    ∀ {R' H' ts' vs' env' σ'}, Cfg G ⟨R, H, fe, fun _ => none⟩ R' H' ts' vs' env' σ' → Same R R' ∧ (∀ a o, ft a ≠ 0 → H a = some o → H' a = some o) ∧ ((∀ j v, Z.pin j = some v → σ'[j]? = some (some v)) → Cfg G Z R' H' (ts' ++ ts2) (vs' ++ vs2) env' σ') := by
  obtain ⟨⟨f12, fe, h12, h2, w, t⟩, pn⟩ := c
  obtain ⟨g1, ft, k1, k2, z⟩ := RpSs.split' hl h12
  have eq : ∀ b, ft b + (g1 b + fe b) = f12 b + fe b := fun b => by have := z b; omega
  have w1 : Wf R H (fun b => ft b + (g1 b + fe b)) := w.same eq
  refine ⟨ft, fun b => g1 b + fe b, k2, ⟨⟨g1, fe, k1, h2, w.less fun b => by have := z b; omega, Tr.refl⟩, fun j v e => nomatch e⟩, ?_⟩
  rintro R' H' ts' vs' env' σ' ⟨⟨ft', fe', q1, q2, w', t'⟩, pn'⟩
  have keep : ∀ a o, ft a ≠ 0 → H a = some o → H' a = some o := fun a o h e => t'.keep a o e (by
    have : f12 a + fe a ≤ 1 := w.one a
    have := z a
    show g1 a + fe a = 0
    omega)
  have eq2 : ∀ b, ft' b + ft b + fe' b = ft b + (ft' b + fe' b) := fun b => by omega
  refine ⟨t'.rs, keep, fun hp => ⟨⟨fun b => ft' b + ft b, fe', RpSs.join (k2.mono t'.rs keep) q1, q2, (w1.frame w' t').same eq2, ((t.trans ((Tr.refl.less fun b => Nat.le_of_eq (eq b)).trans (Tr.frame (g := ft) t'))).less fun b => Nat.le_of_eq (eq2 b))⟩, hp⟩⟩
theorem Kp.of {ss : List Sv} {ws : List V} {ts2 : List Sv} {vs2 : List V} {ft : Fp} (hl : ss.length = ws.length) (h : RpSs G R H (ss ++ ts2) (ws ++ vs2) ft) {R' H' : Hp} (e : Same R R') (sub : Same R' H') (k : ∀ a o, ft a ≠ 0 → H a = some o → H' a = some o) : Kp R H ss ws R' H' := by
  refine ⟨e, sub, fun n l a hs hw => ?_⟩
  have hs' : (ss ++ ts2)[n]? = some (.lst l) := by rw [List.getElem?_append_left (List.getElem?_eq_some_iff.mp hs).1]; exact hs
  have hw' : (ws ++ vs2)[n]? = some (.ref a) := by rw [List.getElem?_append_left (List.getElem?_eq_some_iff.mp hw).1]; exact hw
  obtain ⟨q1, q2, q3⟩ := RpSs.root n h hs' hw'
  rw [k a q2 q1 q3, q3]
/-- one more at the end of the new list -/
theorem Cfg.appD {D : Addr} {acc : List Sv} {s : Sv} {v : V} (c : Cfg G Z R H (s :: .lst acc :: ts) (v :: .ref D :: vs) env σ) : ∃ av, H D = some (.lst av) ∧ av.length = acc.length ∧ Cfg G Z R (upd H D (.lst (av ++ [v]))) (.lst (acc ++ [s]) :: ts) (.ref D :: vs) env σ := by
  obtain ⟨ws, h1, h2, h3⟩ := Cfg.write (es := [s]) (evs := [v]) rfl c
  refine ⟨ws, h1, h2, h3 [] [] (acc ++ [s]) (ws ++ [v]) fun H' g hr => ?_⟩
  obtain ⟨g1, g2, r1, r2, z⟩ := RpSs.split' rfl hr
  refine ⟨fun _ => 0, _, ⟨rfl, fun _ => rfl⟩, RpSs.join r1 r2, fun b => ?_⟩
  have := z b
  show 0 + (g2 b + g1 b) ≤ g b
  omega
end

section
variable {C : Str → Addr} {X : Cx} {W : WX}
structure VTs (C : Str → Addr) (X : Cx) (W : WX) (ifs : List Expr) (f : Tx) : Prop where
  run : ∀ Z, PTs X ifs (TTR (gd X C) Z W f)
theorem vts_nil : VTs C X W [] tYesX := ⟨fun Z => ⟨fun pins s σ H Q I ⟨R, ts, vs, env, c, o⟩ => pts_nil.run pins s σ H Q I (o R H c)⟩⟩
theorem vts_one {t : Expr} {f : Tx} (h : VT C X W t f) : VTs C X W [t] f := ⟨fun Z => pts_one (h.run Z)⟩
theorem VTs.any {t : List Expr} {tf : Tx} (h : VTs C X W t tf) : PTs X t fun σ H Q => ∃ Z, TTR (gd X C) Z W tf σ H Q := ⟨fun pins s σ H Q I ⟨Z, q⟩ => (h.run Z).run pins s σ H Q I q⟩
theorem VE.any {e : Expr} {f : Ex} (h : VE C X W e f) : PE X e fun σ H Q => ∃ Z, ER (gd X C) Z W f σ H Q := ⟨fun pins s σ H Q I ⟨Z, q⟩ => (h.run Z).run pins s σ H Q I q⟩
theorem VI.any {tg it : Expr} {fA : Ax} {gI : List Sv → Option (List Dt)} (h : VI C X W tg it fA gI) : PI X tg it fun σ H Q => ∃ Z, IR (gd X C) Z W fA gI σ H Q := ⟨fun pins s σ H R I ⟨Z, q⟩ => (h.run Z).run pins s σ H R I q⟩
theorem pinned_none {R H : Hp} {f : Fp} : Pinned ⟨R, H, f, fun _ => none⟩ [] := fun _ _ => rfl

/-- the turns of a comprehension's clause: from compL's answer to the new list -/
theorem compL_turns {G : Gd} {Z : Zn} {R0 H0 : Hp} {ss : List Sv} {ws : List V} {J : It} {items : List Dt} {g : Tgt} {t : Tx} {elt : Ex} {own T : List Nat} {σ : L2.St} {D : Addr} {Qend : Hp → Prop}
    (hT : ∀ i ∈ T, i ∈ own) (hZ : ∀ j, Z.pin j = none) (wk : Wk G R0 H0 ss ws J items) (kp : ∀ {R' H' ts' vs' env' σ'}, Cfg G Z R' H' ts' vs' env' σ' → Kp R0 H0 ss ws R' H')
    {e0 : Env} {r : List Sv × Env} {acc0 : List Sv} {R1 H1 : Hp} (hq : compL g t elt own items e0 = .ok r) (hz : (acc0 ++ r.1).length ≤ sizeLine) (c : Cfg G Z R1 H1 [.lst acc0] [.ref D] e0 (wipe σ own))
    (fin : ∀ R' H', Cfg G Z R' H' [.lst (acc0 ++ r.1)] [.ref D] r.2 (wipe σ own) → Qend H') :
    ∃ W' : Nat → Nat → Hp → Prop, (∃ m, W' 0 m H1) ∧ ∀ i m H, W' i m H →
      (J.stop i H ∧ Qend H) ∨ (J.go i H ∧ ∃ Nx : Hp → Prop, (∀ H', Nx H' → ∃ m', m' < m ∧ W' (i + 1) m' H') ∧ ∀ x H', J.yld i H x H' → GR G [] T g x (wipe σ own) H' fun σ2 H2 => wipe σ2 own = wipe σ own ∧ (∃ Z, TTR G Z Wno t σ2 H2 fun b H3 =>
        if b = true then ∃ Z, ER G Z Wno elt σ2 H3 fun y H4 => ∃ acc, H4 D = some (.lst acc) ∧ acc.length < sizeLine ∧ Nx (upd H4 D (.lst (acc ++ [y]))) else Nx H3)) := by
  refine ⟨fun i m H => m = items.length - i ∧ i ≤ items.length ∧ ∃ R e acc r', Cfg G Z R H [.lst acc] [.ref D] e (wipe σ own) ∧ compL g t elt own (items.drop i) e = .ok r' ∧ acc ++ r'.1 = acc0 ++ r.1 ∧ r'.2 = r.2, ⟨items.length, by simp, Nat.zero_le _, R1, e0, acc0, r, c, hq, rfl, rfl⟩, ?_⟩
  rintro i m H ⟨rfl, hil, R, e, acc, r', c', hq', e1, e2⟩
  by_cases hlt : i < items.length
  · refine .inr ⟨wk.go i R H (kp c') hlt, fun H' => ∃ R e acc r', Cfg G Z R H' [.lst acc] [.ref D] e (wipe σ own) ∧ compL g t elt own (items.drop (i + 1)) e = .ok r' ∧ acc ++ r'.1 = acc0 ++ r.1 ∧ r'.2 = r.2, fun H' q => ⟨items.length - (i + 1), by omega, rfl, by omega, q⟩, fun x H2 hy => ?_⟩
    obtain ⟨R2, d, hd, c3⟩ := wk.yld i _ R H _ _ e _ x H2 (kp c') hlt c' hy
    rw [show items.drop i = d :: items.drop (i + 1) from by
      obtain ⟨_, q⟩ := List.getElem?_eq_some_iff.mp hd
      rw [← q]
      exact List.drop_eq_getElem_cons hlt] at hq'
    simp only [compL] at hq'
    refine ⟨Z, R2, d, e, [.lst acc], [.ref D], fun j _ => hZ j, c3, ?_⟩
    cases hg : g d e with
    | none => rw [hg] at hq'; cases hq'
    | some e3 =>
      rw [hg] at hq'
      simp only at hq' ⊢
      intro σ3 c4 w3
      have ew : wipe σ3 own = wipe σ own := (w3 own hT).trans (wipe_wipe σ own)
      refine ⟨ew, Z, R2, [.lst acc], [.ref D], e3, c4, ?_⟩
      cases ht : t e3 with
      | bad => rw [ht] at hq'; cases hq'
      | exc x e => rw [ht] at hq'; cases hq'
      | ok p =>
        obtain ⟨b, e4⟩ := p
        rw [ht] at hq'
        intro R4 H4 c5
        cases b with
        | false =>
          simp only [Bool.false_eq_true, if_false] at hq' ⊢
          have c6 := c5.wipe own hZ
          rw [ew] at c6
          exact ⟨R4, _, acc, r', c6, hq', e1, e2⟩
        | true =>
          simp only [if_true] at hq' ⊢
          refine ⟨Z, R4, [.lst acc], [.ref D], e4, c5, ?_⟩
          cases he : elt e4 with
          | bad => rw [he] at hq'; cases hq'
          | exc x e => rw [he] at hq'; cases hq'
          | ok p =>
            obtain ⟨a, e5⟩ := p
            rw [he] at hq'
            cases a with
            | r i => cases hq'
            | v s =>
              simp only at hq'
              intro v R5 H5 c6
              cases hc : compL g t elt own (items.drop (i + 1)) (wipeE e5 own) with
              | bad => rw [hc] at hq'; cases hq'
              | exc x e => rw [hc] at hq'; cases hq'
              | ok r2 =>
                rw [hc] at hq'
                cases hq'
                obtain ⟨av, h1, h2, c7⟩ := Cfg.appD c6
                have e3 : (acc ++ [s]) ++ r2.1 = acc0 ++ r.1 := by
                  rw [← e1, List.append_assoc]
                  rfl
                refine ⟨av, h1, ?_, ?_⟩
                · rw [h2]
                  have := congrArg List.length e3
                  rw [List.length_append, List.length_append, List.length_singleton] at this
                  omega
                · have c8 := c7.wipe own hZ
                  rw [ew] at c8
                  exact ⟨R5, _, _, r2, c8, hc, e3, e2⟩
  · have e : i = items.length := by omega
    subst e
    rw [List.drop_length] at hq'
    cases hq'
    rw [List.append_nil] at e1
    simp only at e2
    subst e1 e2
    exact .inl ⟨wk.stop _ R H (kp c') (Nat.le_refl _), fin R H c'⟩

theorem lc_read {fA : Ax} {gI : List Sv → Option (List Dt)} {own T : List Nat} {g : Tgt} {t : Tx} {elt : Ex} {Z : Zn} {σ : L2.St} {H : Hp} {Q : VK} (hT : ∀ i ∈ T, i ∈ own) (h : ER (gd X C) Z W (eLc fA gI own g t elt) σ H Q) :
    tLc (IR (gd X C) Z W fA gI) (GR (gd X C) [] T g) (fun σ H Q => ∃ Z, TTR (gd X C) Z Wno t σ H Q) (fun σ H Q => ∃ Z, ER (gd X C) Z Wno elt σ H Q) own σ H Q := by
  obtain ⟨R, ts, vs, env, c, o⟩ := h
  refine ⟨R, ts, vs, env, c, ?_⟩
  unfold eLc at o
  revert o
  generalize fA env = r
  intro o
  match r, o with
  | .exc x e, o => exact o
  | .bad, o => exact o
  | .ok (as, e), o =>
    simp only at o ⊢
    cases ht : takeA as e with
    | none => rw [ht] at o; exact o
    | some q =>
      obtain ⟨ss, e1⟩ := q
      rw [ht] at o
      simp only at o ⊢
      cases hq : gI ss with
      | none => rw [hq] at o; exact o
      | some items =>
        rw [hq] at o
        simp only at o ⊢
        cases hc : compL g t elt own items (wipeE e1 own) with
        | bad => rw [hc] at o; exact o.elim
        | exc x e => rw [hc] at o; exact o.elim
        | ok r =>
          rw [hc] at o
          simp only at o
          by_cases hz : r.1.length ≤ sizeLine
          · rw [if_pos hz] at o
            intro J ws ss0 tw R1 H1 t1 c1 hl wk D hD
            obtain ⟨ft, fe, h1, c2, back⟩ := Cfg.aside (ts1 := []) (vs1 := []) rfl c1
            have c3 := c2.wipe own fun _ => rfl
            have c4 := Cfg.newLst (ss := []) (ws := []) (ts := []) (vs := []) rfl c3 hD
            refine compL_turns (Z := ⟨R1, H1, fe, fun _ => none⟩) (acc0 := []) hT (fun _ => rfl) wk (fun {R' H' ts' vs' env' σ'} c' => ?_) hc hz c4 fun R' H' c' => ?_
            · obtain ⟨b1, b2, _⟩ := back c'
              exact Kp.of hl h1 b1 c'.wf b2
            · have c5 := c'.unwipe fun _ => rfl
              obtain ⟨b1, b2, b3⟩ := back c5
              have c6 := b3 c1.pin
              have c7 := c6.rest (e0 := e1) (fun i d hd => by
                obtain ⟨v, hv, rr⟩ := c1.slot hd
                exact ⟨v, hv, rr.mono b1⟩) own
              exact o _ R' H' (put_ok t1 hl (ts := .lst r.1 :: ts) (vs := .ref D :: vs) (Cfg.under hl c7))
          · rw [if_neg hz] at o
            exact o.elim
variable {elt tg iter : Expr} {ifs : List Expr} {scope : Scope} {own : List (Str × Nat)} {pos : Pos} {fA : Ax} {gI : List Sv → Option (List Dt)} {T : List Nat} {g : Tgt} {t : Tx} {f : Ex}
theorem ve_lc (hc : X.calm = true) (hN : X.N.Nodup) (hi : VI C X W tg iter fA gI) (ok : BlkOk X.N X.env.scope scope own) (hT : ∀ i ∈ T, i ∈ own.map (·.2))
    (hg : ∀ (s : Shared) (H : Hp) (A : Addr) (cl : List (Str × Addr)) (fp : List Addr), VG C (X.blk s H scope (compEnvC scope cl A X.env) fp) [] T tg g) (ht : ∀ (s : Shared) (H : Hp) (A : Addr) (cl : List (Str × Addr)) (fp : List Addr), VTs C (X.blk s H scope (compEnvC scope cl A X.env) fp) Wno ifs t)
    (he : ∀ (s : Shared) (H : Hp) (A : Addr) (cl : List (Str × Addr)) (fp : List Addr), VE C (X.blk s H scope (compEnvC scope cl A X.env) fp) Wno elt f) (hs : ∀ x, foldedSetIterable iter X.env x = pure x := by intro _; rfl) :
    VE C X W (.ListComp elt [⟨tg, iter, ifs, 0⟩] scope pos) (eLc fA gI (own.map (·.2)) g t f) :=
  ⟨fun Z => pe_imp (pe_lc hc hN (hi.run Z) ok (fun s H A cl fp => (hg s H A cl fp).run) (fun s H A cl fp => (ht s H A cl fp).any) (fun s H A cl fp => (he s H A cl fp).any) hs) fun σ H Q h => lc_read hT h⟩
theorem vs_setLc {P : List Bool} {i : Nat} {y : Str} {py spos : Pos} (hc : X.calm = true) (hN : X.N.Nodup) (hy : X.N[i]? = some y) (hyl : X.env.scope.names.lookup y = some .local) (hP : P.getD i false = false)
    (hsw : swapsWith (.ListComp elt [⟨tg, iter, ifs, 0⟩] scope pos) (some (.Name y py)) spos.line X.env = pure true) (hi : VI C X W tg iter fA gI) (ok : BlkOk X.N X.env.scope scope own) (hT : ∀ i ∈ T, i ∈ own.map (·.2))
    (hg : ∀ (s : Shared) (H : Hp) (A : Addr) (cl : List (Str × Addr)) (fp : List Addr), VG C (X.blk s H scope (compEnvC scope cl A X.env) fp) [] T tg g) (ht : ∀ (s : Shared) (H : Hp) (A : Addr) (cl : List (Str × Addr)) (fp : List Addr), VTs C (X.blk s H scope (compEnvC scope cl A X.env) fp) Wno ifs t)
    (he : ∀ (s : Shared) (H : Hp) (A : Addr) (cl : List (Str × Addr)) (fp : List Addr), VE C (X.blk s H scope (compEnvC scope cl A X.env) fp) Wno elt f) (hs : ∀ x, foldedSetIterable iter X.env x = pure x := by intro _; rfl) :
    VS C X W P (.Assign [.Name y py] (.ListComp elt [⟨tg, iter, ifs, 0⟩] scope pos) spos) (sSet i (eLc fA gI (own.map (·.2)) g t f)) :=
  ⟨fun Z pz => ps_imp (ps_setLc hc hN hy hyl hsw (hi.run Z) ok (fun s H A cl fp => (hg s H A cl fp).run) (fun s H A cl fp => (ht s H A cl fp).any) (fun s H A cl fp => (he s H A cl fp).any) hs) fun D σ H h => lc_read hT (ofE_bind h fun R1 H1 a v e c o => by
    cases a with
    | v s => exact putS_ok (pz i hP) c o
    | r i => exact o.elim)⟩
/-! ### two clauses -/
theorem lc2_read {fA fA1 : Ax} {gI gI1 : List Sv → Option (List Dt)} {own vs1 T T1 : List Nat} {g g1 : Tgt} {t t1 : Tx} {elt : Ex} {Z : Zn} {σ : L2.St} {H : Hp} {Q : VK} (hT : ∀ i ∈ T, i ∈ own) (hT1 : ∀ i ∈ T1, i ∈ vs1) (hv : ∀ i ∈ vs1, i ∈ own) (h : ER (gd X C) Z W (eLc2 fA gI own vs1 g t fA1 gI1 g1 t1 elt) σ H Q) :
    tLc2 (IR (gd X C) Z W fA gI) (GR (gd X C) [] T g) (fun σ H Q => ∃ Z, TTR (gd X C) Z Wno t σ H Q) (fun σ H Q => ∃ Z, IR (gd X C) Z Wno fA1 gI1 σ H Q) (GR (gd X C) [] T1 g1) (fun σ H Q => ∃ Z, TTR (gd X C) Z Wno t1 σ H Q) (fun σ H Q => ∃ Z, ER (gd X C) Z Wno elt σ H Q) own vs1 σ H Q := by
  obtain ⟨R, ts, vs, env, c, o⟩ := h
  refine ⟨R, ts, vs, env, c, ?_⟩
  unfold eLc2 at o
  revert o
  generalize fA env = r
  intro o
  match r, o with
  | .exc x e, o => exact o
  | .bad, o => exact o
  | .ok (as, e), o =>
    simp only at o ⊢
    cases ht : takeA as e with
    | none => rw [ht] at o; exact o
    | some q =>
      obtain ⟨ss, e1⟩ := q
      rw [ht] at o
      simp only at o ⊢
      cases hq : gI ss with
      | none => rw [hq] at o; exact o
      | some items =>
        rw [hq] at o
        simp only at o ⊢
        cases hc : compL2 g t fA1 gI1 g1 t1 elt own vs1 items (wipeE e1 own) with
        | bad => rw [hc] at o; exact o.elim
        | exc x e => rw [hc] at o; exact o.elim
        | ok r =>
          rw [hc] at o
          simp only at o
          by_cases hz : r.1.length ≤ sizeLine
          · rw [if_pos hz] at o
            intro J ws ss0 tw R1 H1 tm c1 hl wk D hD
            obtain ⟨ft, fe, h1, c2, back⟩ := Cfg.aside (ts1 := []) (vs1 := []) rfl c1
            have c3 := c2.wipe own fun _ => rfl
            have c4 := Cfg.newLst (ss := []) (ws := []) (ts := []) (vs := []) rfl c3 hD
            have kp : ∀ {R' H' ts' vs' env' σ'}, Cfg (gd X C) ⟨R1, H1, fe, fun _ => none⟩ R' H' ts' vs' env' σ' → Kp R1 H1 ss ws R' H' := fun {R' H' ts' vs' env' σ'} c' => by
              obtain ⟨b1, b2, _⟩ := back c'
              exact Kp.of hl h1 b1 c'.wf b2
            refine ⟨fun i m H => m = items.length - i ∧ i ≤ items.length ∧ ∃ R e acc r', Cfg (gd X C) ⟨R1, H1, fe, fun _ => none⟩ R H [.lst acc] [.ref D] e (wipe σ own) ∧ compL2 g t fA1 gI1 g1 t1 elt own vs1 (items.drop i) e = .ok r' ∧ acc ++ r'.1 = r.1 ∧ r'.2 = r.2, ⟨items.length, by simp, Nat.zero_le _, R1, _, [], r, c4, hc, rfl, rfl⟩, ?_⟩
            rintro i m H ⟨rfl, hil, R, e, acc, r', c', hq', ea, eb⟩
            by_cases hlt : i < items.length
            · refine .inr ⟨wk.go i R H (kp c') hlt, fun H' => ∃ R e acc r', Cfg (gd X C) ⟨R1, H1, fe, fun _ => none⟩ R H' [.lst acc] [.ref D] e (wipe σ own) ∧ compL2 g t fA1 gI1 g1 t1 elt own vs1 (items.drop (i + 1)) e = .ok r' ∧ acc ++ r'.1 = r.1 ∧ r'.2 = r.2, fun H' q => ⟨items.length - (i + 1), by omega, rfl, by omega, q⟩, fun x H2 hy => ?_⟩
              obtain ⟨R2, d, hd, c5⟩ := wk.yld i _ R H _ _ e _ x H2 (kp c') hlt c' hy
              rw [show items.drop i = d :: items.drop (i + 1) from by
                obtain ⟨_, q⟩ := List.getElem?_eq_some_iff.mp hd
                rw [← q]
                exact List.drop_eq_getElem_cons hlt] at hq'
              simp only [compL2] at hq'
              refine ⟨_, R2, d, e, [.lst acc], [.ref D], fun j _ => rfl, c5, ?_⟩
              cases hg : g d e with
              | none => rw [hg] at hq'; cases hq'
              | some e3 =>
                rw [hg] at hq'
                simp only at hq' ⊢
                intro σ2 c6 w3
                have ew : wipe σ2 own = wipe σ own := (w3 own hT).trans (wipe_wipe σ own)
                refine ⟨ew, _, R2, [.lst acc], [.ref D], e3, c6, ?_⟩
                cases ht3 : t e3 with
                | bad => rw [ht3] at hq'; cases hq'
                | exc x e => rw [ht3] at hq'; cases hq'
                | ok p =>
                  obtain ⟨b, e4⟩ := p
                  rw [ht3] at hq'
                  intro R4 H4 c7
                  cases b with
                  | false =>
                    simp only [Bool.false_eq_true, if_false] at hq' ⊢
                    have c8 := c7.wipe own fun _ => rfl
                    rw [ew] at c8
                    exact ⟨R4, _, acc, r', c8, hq', ea, eb⟩
                  | true =>
                    simp only [if_true] at hq' ⊢
                    refine ⟨_, R4, [.lst acc], [.ref D], e4, c7, ?_⟩
                    cases hA : fA1 e4 with
                    | bad => rw [hA] at hq'; cases hq'
                    | exc x e => rw [hA] at hq'; cases hq'
                    | ok a =>
                      obtain ⟨as1, e5⟩ := a
                      rw [hA] at hq'
                      simp only at hq' ⊢
                      cases ht5 : takeA as1 e5 with
                      | none => rw [ht5] at hq'; cases hq'
                      | some q1 =>
                        obtain ⟨ss1, e6⟩ := q1
                        rw [ht5] at hq'
                        simp only at hq' ⊢
                        cases hq6 : gI1 ss1 with
                        | none => rw [hq6] at hq'; cases hq'
                        | some items1 =>
                          rw [hq6] at hq'
                          simp only at hq' ⊢
                          intro J1 ws1 ss01 tw1 R6 H6 tm1 c8 hl1 wk1
                          cases hc1 : compL g1 t1 elt vs1 items1 (wipeE e6 vs1) with
                          | bad => rw [hc1] at hq'; cases hq'
                          | exc x e => rw [hc1] at hq'; cases hq'
                          | ok r1 =>
                            rw [hc1] at hq'
                            simp only at hq'
                            cases hc2 : compL2 g t fA1 gI1 g1 t1 elt own vs1 (items.drop (i + 1)) (wipeE (putA as1 (ss1.map some) (wipeE r1.2 vs1)) own) with
                            | bad => rw [hc2] at hq'; cases hq'
                            | exc x e => rw [hc2] at hq'; cases hq'
                            | ok r2 =>
                              rw [hc2] at hq'
                              cases hq'
                              have e3' : acc ++ r1.1 ++ r2.1 = r.1 := by
                                rw [List.append_assoc]
                                exact ea
                              have hz1 : (acc ++ r1.1).length ≤ sizeLine := by
                                have := congrArg List.length e3'
                                rw [List.length_append] at this
                                omega
                              have c9 := Cfg.over (ts := []) (vs := []) hl1 c8
                              rw [List.append_nil, List.append_nil] at c9
                              obtain ⟨ft1, fe1, h11, c10, back1⟩ := Cfg.aside (ts1 := [.lst acc]) (vs1 := [.ref D]) rfl c9
                              have c11 := c10.wipe vs1 fun _ => rfl
                              refine compL_turns (Z := ⟨R6, H6, fe1, fun _ => none⟩) (acc0 := acc) hT1 (fun _ => rfl) wk1 (fun {R' H' ts' vs' env' σ'} c' => ?_) hc1 hz1 c11 fun R' H' c' => ?_
                              · obtain ⟨b1, b2, _⟩ := back1 c'
                                exact Kp.of (ts2 := []) (vs2 := []) hl1 (by rw [List.append_nil, List.append_nil]; exact h11) b1 c'.wf b2
                              · have c12 := c'.unwipe fun _ => rfl
                                obtain ⟨b1, b2, b3⟩ := back1 c12
                                have c13 := b3 fun j v e => nomatch e
                                have c14 := put_ok tm1 hl1 (ts := [.lst (acc ++ r1.1)]) (vs := [.ref D]) (Cfg.under (ts := []) (vs := []) hl1 (by rw [List.append_nil, List.append_nil]; exact c13))
                                have c15 := c14.wipe own fun _ => rfl
                                rw [ew] at c15
                                exact ⟨R', _, _, r2, c15, hc2, e3', eb⟩
            · have ei : i = items.length := by omega
              subst ei
              rw [List.drop_length] at hq'
              cases hq'
              rw [List.append_nil] at ea
              simp only at eb
              rw [ea, eb] at c'
              have c5 := c'.unwipe fun _ => rfl
              obtain ⟨b1, b2, b3⟩ := back c5
              have c6 := b3 c1.pin
              have c7 := c6.rest (e0 := e1) (fun i d hd => by
                obtain ⟨v, hv, rr⟩ := c1.slot hd
                exact ⟨v, hv, rr.mono b1⟩) own
              exact .inl ⟨wk.stop _ R H (kp c') (Nat.le_refl _), o _ R H (put_ok tm hl (ts := .lst r.1 :: ts) (vs := .ref D :: vs) (Cfg.under hl c7))⟩
          · rw [if_neg hz] at o
            exact o.elim
variable {tg1 iter1 : Expr} {ifs1 : List Expr} {fA1 : Ax} {gI1 : List Sv → Option (List Dt)} {T1 vs1 : List Nat} {g1 : Tgt} {t1 : Tx}
theorem ve_lc2 (hc : X.calm = true) (hN : X.N.Nodup) (hi : VI C X W tg iter fA gI) (ok : BlkOk X.N X.env.scope scope own) (hv : ∀ i ∈ vs1, i ∈ own.map (·.2)) (hT : ∀ i ∈ T, i ∈ own.map (·.2)) (hT1 : ∀ i ∈ T1, i ∈ vs1)
    (hg : ∀ (s : Shared) (H : Hp) (A : Addr) (cl : List (Str × Addr)) (fp : List Addr), VG C (X.blk s H scope (compEnvC scope cl A X.env) fp) [] T tg g) (ht : ∀ (s : Shared) (H : Hp) (A : Addr) (cl : List (Str × Addr)) (fp : List Addr), VTs C (X.blk s H scope (compEnvC scope cl A X.env) fp) Wno ifs t)
    (hi1 : ∀ (s : Shared) (H : Hp) (A : Addr) (cl : List (Str × Addr)) (fp : List Addr), VI C (X.blk s H scope (compEnvC scope cl A X.env) fp) Wno tg1 iter1 fA1 gI1)
    (hg1 : ∀ (s : Shared) (H : Hp) (A : Addr) (cl : List (Str × Addr)) (fp : List Addr), VG C (X.blk s H scope (compEnvC scope cl A X.env) fp) [] T1 tg1 g1) (ht1 : ∀ (s : Shared) (H : Hp) (A : Addr) (cl : List (Str × Addr)) (fp : List Addr), VTs C (X.blk s H scope (compEnvC scope cl A X.env) fp) Wno ifs1 t1)
    (he : ∀ (s : Shared) (H : Hp) (A : Addr) (cl : List (Str × Addr)) (fp : List Addr), VE C (X.blk s H scope (compEnvC scope cl A X.env) fp) Wno elt f) (hs : ∀ x, foldedSetIterable iter X.env x = pure x := by intro _; rfl) (hs1 : ∀ (env : PySem.Env) x, foldedSetIterable iter1 env x = pure x := by intro _ _; rfl) :
    VE C X W (.ListComp elt [⟨tg, iter, ifs, 0⟩, ⟨tg1, iter1, ifs1, 0⟩] scope pos) (eLc2 fA gI (own.map (·.2)) vs1 g t fA1 gI1 g1 t1 f) :=
  ⟨fun Z => pe_imp (pe_lc2 hc hN (hi.run Z) ok hv (fun s H A cl fp => (hg s H A cl fp).run) (fun s H A cl fp => (ht s H A cl fp).any) (fun s H A cl fp => (hi1 s H A cl fp).any) (fun s H A cl fp => (hg1 s H A cl fp).run) (fun s H A cl fp => (ht1 s H A cl fp).any) (fun s H A cl fp => (he s H A cl fp).any) hs hs1) fun σ H Q h => lc2_read hT hT1 hv h⟩
theorem vs_setLc2 {P : List Bool} {i : Nat} {y : Str} {py spos : Pos} (hc : X.calm = true) (hN : X.N.Nodup) (hy : X.N[i]? = some y) (hyl : X.env.scope.names.lookup y = some .local) (hP : P.getD i false = false)
    (hsw : swapsWith (.ListComp elt [⟨tg, iter, ifs, 0⟩, ⟨tg1, iter1, ifs1, 0⟩] scope pos) (some (.Name y py)) spos.line X.env = pure true) (hi : VI C X W tg iter fA gI) (ok : BlkOk X.N X.env.scope scope own) (hv : ∀ i ∈ vs1, i ∈ own.map (·.2)) (hT : ∀ i ∈ T, i ∈ own.map (·.2)) (hT1 : ∀ i ∈ T1, i ∈ vs1)
    (hg : ∀ (s : Shared) (H : Hp) (A : Addr) (cl : List (Str × Addr)) (fp : List Addr), VG C (X.blk s H scope (compEnvC scope cl A X.env) fp) [] T tg g) (ht : ∀ (s : Shared) (H : Hp) (A : Addr) (cl : List (Str × Addr)) (fp : List Addr), VTs C (X.blk s H scope (compEnvC scope cl A X.env) fp) Wno ifs t)
    (hi1 : ∀ (s : Shared) (H : Hp) (A : Addr) (cl : List (Str × Addr)) (fp : List Addr), VI C (X.blk s H scope (compEnvC scope cl A X.env) fp) Wno tg1 iter1 fA1 gI1)
    (hg1 : ∀ (s : Shared) (H : Hp) (A : Addr) (cl : List (Str × Addr)) (fp : List Addr), VG C (X.blk s H scope (compEnvC scope cl A X.env) fp) [] T1 tg1 g1) (ht1 : ∀ (s : Shared) (H : Hp) (A : Addr) (cl : List (Str × Addr)) (fp : List Addr), VTs C (X.blk s H scope (compEnvC scope cl A X.env) fp) Wno ifs1 t1)
    (he : ∀ (s : Shared) (H : Hp) (A : Addr) (cl : List (Str × Addr)) (fp : List Addr), VE C (X.blk s H scope (compEnvC scope cl A X.env) fp) Wno elt f) (hs : ∀ x, foldedSetIterable iter X.env x = pure x := by intro _; rfl) (hs1 : ∀ (env : PySem.Env) x, foldedSetIterable iter1 env x = pure x := by intro _ _; rfl) :
    VS C X W P (.Assign [.Name y py] (.ListComp elt [⟨tg, iter, ifs, 0⟩, ⟨tg1, iter1, ifs1, 0⟩] scope pos) spos) (sSet i (eLc2 fA gI (own.map (·.2)) vs1 g t fA1 gI1 g1 t1 f)) :=
  ⟨fun Z pz => ps_imp (ps_setLc2 hc hN hy hyl hsw (hi.run Z) ok hv (fun s H A cl fp => (hg s H A cl fp).run) (fun s H A cl fp => (ht s H A cl fp).any) (fun s H A cl fp => (hi1 s H A cl fp).any) (fun s H A cl fp => (hg1 s H A cl fp).run) (fun s H A cl fp => (ht1 s H A cl fp).any) (fun s H A cl fp => (he s H A cl fp).any) hs hs1) fun D σ H h => lc2_read hT hT1 hv (ofE_bind h fun R1 H1 a v e c o => by
    cases a with
    | v s => exact putS_ok (pz i hP) c o
    | r i => exact o.elim)⟩
end
end Fw
set_option Elab.async false
set_option linter.all false
set_option maxRecDepth 100000
set_option maxHeartbeats 1000000
/-! What is walked: lists, tuples, texts, ranges, enumerate, zip, reversed. -/
namespace Fw
open PySem PySem.Spec PyProof.Rows L2

@[simp] def allFz : List Sv → Option (List Dt)
  | [] => some []
  | .fz d :: ss => (allFz ss).map fun r => d :: r
  | _ :: _ => none
@[simp] def elemsL : Sv → Option (List Dt)
  | .fz (.lst ds) => some ds
  | .lst ss => allFz ss
  | _ => none
def signs (x : Str) : List Dt := x.cps.toList.map fun c => .str ⟨#[c]⟩
@[simp] def elems : Sv → Option (List Dt)
  | .fz (.tup ds) => some ds
  | .fz (.str x) => some (signs x)
  | s => elemsL s
section
variable {G : Gd} {Z : Zn} {W : WX} {R H : Hp} {ts : List Sv} {vs : List V} {env : Env} {σ : L2.St}
theorem allFz_ok : ∀ {ss : List Sv} {ds : List Dt} {ws : List V} {g : Fp}, allFz ss = some ds → RpSs G R H ss ws g → RpDs G R ds ws
  | [], ds, ws, g, h, ⟨e, _⟩ => by cases h; exact e
  | .fz d :: ss, ds, ws, g, h, ⟨v, vr, g1, k, e, hs, r, _⟩ => by
    simp only [allFz] at h
    cases q : allFz ss with
    | none => rw [q] at h; cases h
    | some l => rw [q] at h; cases h; exact ⟨v, vr, e, hs.1, allFz_ok q r⟩
  | .lst _ :: _, _, _, _, h, _ => nomatch h
  | .ins _ _ _ :: _, _, _, _, h, _ => nomatch h
theorem RpDs.get : ∀ {ds : List Dt} {ws : List V} {i : Nat} {d : Dt} {x : V}, RpDs G R ds ws → ds[i]? = some d → ws[i]? = some x → RpD G R d x
  | [], _, _, _, _, _, h, _ => by simp at h
  | d :: ds, _, 0, _, _, ⟨v, vr, e, h, r⟩, hd, hx => by
    subst e
    have e1 : d = _ := Option.some.inj hd
    have e2 : v = _ := Option.some.inj hx
    subst e1 e2
    exact h
  | d :: ds, _, i + 1, _, _, ⟨v, vr, e, h, r⟩, hd, hx => by
    subst e
    exact RpDs.get r (by simpa using hd) (by simpa using hx)
theorem elemsL_kp {s : Sv} {v : V} {ds : List Dt} (c : Cfg G Z R H (s :: ts) (v :: vs) env σ) (h : elemsL s = some ds) : ∃ a ws, v = .ref a ∧ RpDs G R ds ws ∧ SqL G.K H a ws ∧ ∀ ss2 ws2 R' H', Kp R H (s :: ss2) (v :: ws2) R' H' → SqL G.K H' a ws := by
  have sub := c.wf
  obtain ⟨f, r⟩ := c.topS
  cases s with
  | ins _ _ _ => cases h
  | lst ss =>
    obtain ⟨a, ws, g, rfl, ha, hs, _⟩ := r
    exact ⟨a, ws, rfl, allFz_ok h hs, .inl (.inl ha), fun ss2 ws2 R' H' k => .inl (.inl ((k.at_ 0 ss a rfl rfl).trans ha))⟩
  | fz d =>
    cases d with
    | lst l =>
      cases h
      obtain ⟨⟨a, ws, rfl, ha, hs⟩, _⟩ := r
      exact ⟨a, ws, rfl, hs, sub.seq ha, fun ss2 ws2 R' H' k => k.sub.seq (k.rs.seq ha)⟩
    | _ => cases h
theorem elemsT_kp {v : V} {ds : List Dt} (c : Cfg G Z R H (.fz (.tup ds) :: ts) (v :: vs) env σ) : ∃ a ws, v = .ref a ∧ RpDs G R ds ws ∧ SqT G.K H a ws ∧ ∀ ss2 ws2 R' H', Kp R H ss2 ws2 R' H' → SqT G.K H' a ws := by
  have sub := c.wf
  obtain ⟨a, ws, rfl, ha, hs⟩ := c.top
  exact ⟨a, ws, rfl, hs, sqT_mono sub ha, fun ss2 ws2 R' H' k => sqT_mono k.sub (sqT_mono k.rs ha)⟩
theorem get_of {α : Type} {l : List α} {i : Nat} (h : i < l.length) : ∃ x, l[i]? = some x := ⟨l[i], List.getElem?_eq_getElem h⟩
theorem wk_list {ss : List Sv} {ws0 : List V} {a : Addr} {ws : List V} {ds : List Dt} (hr : RpDs G R ds ws) (hk : ∀ R' H', Kp R H ss ws0 R' H' → SqL G.K H' a ws) : Wk G R H ss ws0 (Itl G.K a) ds where
  go := fun i R' H' k hi => by
    obtain ⟨x, hx⟩ := get_of (l := ws) (by rw [← hr.len]; exact hi)
    exact ⟨ws, x, hk R' H' k, hx⟩
  stop := fun i R' H' k hi => ⟨ws, hk R' H' k, by rw [← hr.len]; exact hi⟩
  yld := fun i Z R' H' ts vs env σ x H2 k hi c hy => by
    obtain ⟨rfl, hy⟩ := hy
    have hx := hy ws (hk R' _ k)
    obtain ⟨d, hd⟩ := get_of hi
    exact ⟨R', d, hd, c.push ((hr.get hd hx).mono k.rs)⟩
theorem wk_tup {ss : List Sv} {ws0 : List V} {a : Addr} {ws : List V} {ds : List Dt} (hr : RpDs G R ds ws) (hk : ∀ R' H', Kp R H ss ws0 R' H' → SqT G.K H' a ws) : Wk G R H ss ws0 (Itt G.K a) ds where
  go := fun i R' H' k hi => by
    obtain ⟨x, hx⟩ := get_of (l := ws) (by rw [← hr.len]; exact hi)
    exact ⟨ws, x, hk R' H' k, hx⟩
  stop := fun i R' H' k hi => ⟨ws, hk R' H' k, by rw [← hr.len]; exact hi⟩
  yld := fun i Z R' H' ts vs env σ x H2 k hi c hy => by
    obtain ⟨rfl, hy⟩ := hy
    have hx := hy ws (hk R' _ k)
    obtain ⟨d, hd⟩ := get_of hi
    exact ⟨R', d, hd, c.push ((hr.get hd hx).mono k.rs)⟩
theorem wk_str {ss : List Sv} {ws0 : List V} {x : Str} : Wk G R H ss ws0 (Its x) (signs x) where
  go := fun i R' H' k hi => by
    show i < x.cps.size
    unfold signs at hi
    rw [List.length_map, Array.length_toList] at hi
    exact hi
  stop := fun i R' H' k hi => by
    show x.cps.size ≤ i
    unfold signs at hi
    rw [List.length_map, Array.length_toList] at hi
    exact hi
  yld := fun i Z R' H' ts vs env σ v H2 k hi c hy => by
    obtain ⟨rfl, cc, hc, rfl⟩ := hy
    refine ⟨R', .str ⟨#[cc]⟩, ?_, c.push rfl⟩
    unfold signs
    rw [List.getElem?_map]
    have : x.cps.toList[i]? = some cc := by simpa using hc
    rw [this]
    rfl
theorem wk_range {ss : List Sv} {ws0 : List V} {lo : Int} {n : Nat} : Wk G R H ss ws0 (Itr lo n) ((List.range n).map fun k : Nat => Dt.int (lo + (k : Int))) where
  go := fun i R' H' k hi => by
    rw [List.length_map, List.length_range] at hi
    exact hi
  stop := fun i R' H' k hi => by
    rw [List.length_map, List.length_range] at hi
    exact hi
  yld := fun i Z R' H' ts vs env σ v H2 k hi c hy => by
    obtain ⟨rfl, rfl⟩ := hy
    rw [List.length_map, List.length_range] at hi
    exact ⟨R', .int (lo + (i : Int)), by rw [List.getElem?_map, List.getElem?_range hi]; rfl, c.push rfl⟩
theorem wk_rangeC {ss : List Sv} {ws0 : List V} {lo c : Int} {n : Nat} : Wk G R H ss ws0 (Itc lo c n) ((List.range n).map fun k : Nat => Dt.int (lo + (k : Int) * c)) where
  go := fun i R' H' k hi => by
    rw [List.length_map, List.length_range] at hi
    exact hi
  stop := fun i R' H' k hi => by
    rw [List.length_map, List.length_range] at hi
    exact hi
  yld := fun i Z R' H' ts vs env σ v H2 k hi cc hy => by
    obtain ⟨rfl, rfl⟩ := hy
    rw [List.length_map, List.length_range] at hi
    exact ⟨R', .int (lo + (i : Int) * c), by rw [List.getElem?_map, List.getElem?_range hi]; rfl, cc.push rfl⟩
theorem wk_rev {ss : List Sv} {ws0 : List V} {a : Addr} {ws : List V} {ds : List Dt} (hr : RpDs G R ds ws) (hk : ∀ R' H', Kp R H ss ws0 R' H' → SqL G.K H' a ws) : Wk G R H ss ws0 (Itv G.K a ws.length) ds.reverse where
  go := fun i R' H' k hi => by
    rw [List.length_reverse, hr.len] at hi
    obtain ⟨x, hx⟩ := get_of (l := ws) (i := ws.length - 1 - i) (by omega)
    exact ⟨hi, ws, x, hk R' H' k, hx⟩
  stop := fun i R' H' k hi => by
    rw [List.length_reverse, hr.len] at hi
    exact hi
  yld := fun i Z R' H' ts vs env σ x H2 k hi c hy => by
    obtain ⟨rfl, hy⟩ := hy
    have hx := hy ws (hk R' _ k)
    rw [List.length_reverse] at hi
    obtain ⟨d, hd⟩ := get_of (l := ds) (i := ws.length - 1 - i) (by rw [hr.len] at hi ⊢; omega)
    exact ⟨R', d, by rw [List.getElem?_reverse hi, hr.len]; exact hd, c.push ((hr.get hd hx).mono k.rs)⟩
def enumD (ds : List Dt) : List Dt := (List.range ds.length).map fun i => .tup [.int (i : Nat), ds.getD i .non]
theorem wk_enum {ss : List Sv} {ws0 : List V} {a : Addr} {ws : List V} {ds : List Dt} (hr : RpDs G R ds ws) (hk : ∀ R' H', Kp R H ss ws0 R' H' → SqL G.K H' a ws) : Wk G R H ss ws0 (Ite G.K a) (enumD ds) where
  go := fun i R' H' k hi => by
    unfold enumD at hi
    rw [List.length_map, List.length_range] at hi
    obtain ⟨x, hx⟩ := get_of (l := ws) (by rw [← hr.len]; exact hi)
    exact ⟨ws, x, hk R' H' k, hx⟩
  stop := fun i R' H' k hi => by
    unfold enumD at hi
    rw [List.length_map, List.length_range] at hi
    exact ⟨ws, hk R' H' k, by rw [← hr.len]; exact hi⟩
  yld := fun i Z R' H' ts vs env σ v H2 k hi c hy => by
    obtain ⟨T, x, rfl, hT, rfl, hy⟩ := hy
    unfold enumD at hi ⊢
    rw [List.length_map, List.length_range] at hi
    have hx := hy ws (hk R' H' k)
    obtain ⟨d, hd⟩ := get_of hi
    obtain ⟨c2, e2⟩ := c.grow (.tup [.int (i : Nat), x]) hT
    refine ⟨_, .tup [.int (i : Nat), d], ?_, c2.push ⟨T, [.int (i : Nat), x], rfl, .inl (.inl upd_same), ⟨_, _, rfl, rfl, _, _, rfl, ((hr.get hd hx).mono k.rs).mono e2, rfl⟩⟩⟩
    rw [List.getElem?_map, List.getElem?_range hi]
    show some (Dt.tup [.int (i : Nat), ds.getD i .non]) = _
    rw [List.getD_eq_getElem?_getD, hd]
    rfl
def zipD (ds es : List Dt) : List Dt := (List.zip ds es).map fun p => .tup [p.1, p.2]
theorem wk_zip {ss : List Sv} {ws0 : List V} {a b : Addr} {ws us : List V} {ds es : List Dt} (hr : RpDs G R ds ws) (hr2 : RpDs G R es us) (hk : ∀ R' H', Kp R H ss ws0 R' H' → SqL G.K H' a ws) (hk2 : ∀ R' H', Kp R H ss ws0 R' H' → SqL G.K H' b us) : Wk G R H ss ws0 (Itz G.K a b) (zipD ds es) where
  go := fun i R' H' k hi => by
    unfold zipD at hi
    rw [List.length_map, List.length_zip] at hi
    obtain ⟨x, hx⟩ := get_of (l := ws) (i := i) (by rw [← hr.len]; omega)
    obtain ⟨y, hy⟩ := get_of (l := us) (i := i) (by rw [← hr2.len]; omega)
    exact ⟨ws, us, x, y, hk R' H' k, hk2 R' H' k, hx, hy⟩
  stop := fun i R' H' k hi => by
    unfold zipD at hi
    rw [List.length_map, List.length_zip] at hi
    refine ⟨ws, us, hk R' H' k, hk2 R' H' k, ?_⟩
    rw [← hr.len, ← hr2.len]
    omega
  yld := fun i Z R' H' ts vs env σ v H2 k hi c hy => by
    obtain ⟨T, x, y, rfl, hT, rfl, hx, hy⟩ := hy
    unfold zipD at hi ⊢
    rw [List.length_map, List.length_zip] at hi
    have hx := hx ws (hk R' H' k)
    have hy := hy us (hk2 R' H' k)
    obtain ⟨d, hd⟩ := get_of (l := ds) (i := i) (by omega)
    obtain ⟨e, he⟩ := get_of (l := es) (i := i) (by omega)
    obtain ⟨c2, e2⟩ := c.grow (.tup [x, y]) hT
    refine ⟨_, .tup [d, e], ?_, c2.push ⟨T, [x, y], rfl, .inl (.inl upd_same), ⟨_, _, rfl, ((hr.get hd hx).mono k.rs).mono e2, _, _, rfl, ((hr2.get he hy).mono k.rs).mono e2, rfl⟩⟩⟩
    rw [List.getElem?_map, (List.getElem?_zip_eq_some (z := (d, e))).mpr ⟨hd, he⟩]
    rfl
end

/-! ### the sources -/
section
variable {C : Str → Addr} {X : Cx} {W : WX} {tg : Expr}
/-- a list, a tuple, a text -/
def iSeq (K : PySem.W.Frag) (tl : TE) : TI := fun σ H R => tl σ H fun x H1 => (∃ a, x = .ref a ∧ (∃ xs, SqL K H1 a xs) ∧ R (Itl K a) H1) ∨ (∃ a, x = .ref a ∧ (∃ xs, SqT K H1 a xs) ∧ R (Itt K a) H1) ∨ (∃ z, x = .str z ∧ R (Its z) H1)
theorem pi_seq {l : Expr} {tl : TE} (hl : PE X l tl) : PI X tg l (iSeq X.K tl) := by
  refine ⟨fun pins s σ H R I h => ?_⟩
  refine thn (hl.run pins s σ H _ I h) fun v s1 ⟨x, H1, I1, r1, q1⟩ => ?_
  rcases q1 with ⟨a, e, ⟨xs, hq⟩, q⟩ | ⟨a, e, ⟨xs, hq⟩, q⟩ | ⟨z, e, q⟩
  · subst e
    cases r1
    obtain ⟨its, rv, p, hz⟩ := I1.list hq
    refine wpAny_pyIter_list p.isList ?_
    refine ⟨s1.heap.objs.size, [s1.heap.objs.size], _, _, H1, rfl, I1.kept (t' := s1.toks) fun b o e => Heap.get?_push_of_some _ e, turn_list a _, ⟨_, Heap.get?_push_size _ rfl, rfl, rfl⟩, fun b hb => ?_, q⟩
    have e : b = s1.heap.objs.size := by simpa using hb
    subst e
    exact I1.fpOk (Nat.le_refl _) (I1.hok.fresh (Nat.le_refl _))
  · subst e
    cases r1
    obtain ⟨its, rv, p, hz⟩ := I1.tuple hq
    refine wpAny_pyIter_tuple (show s1.heap.IsTuple a its.toArray from p) ?_
    refine ⟨s1.heap.objs.size, [s1.heap.objs.size], _, _, H1, rfl, I1.kept (t' := s1.toks) fun b o e => Heap.get?_push_of_some _ e, turn_tuple a _, ⟨_, Heap.get?_push_size _ rfl, rfl, rfl⟩, fun b hb => ?_, q⟩
    have e : b = s1.heap.objs.size := by simpa using hb
    subst e
    exact I1.fpOk (Nat.le_refl _) (I1.hok.fresh (Nat.le_refl _))
  · subst e
    obtain ⟨t, rfl⟩ := r1
    cases ha : z.cps.all (· < 128)
    · exact wpAny_pyIter_wide ha (pi_one (tk := s1.toks) I1 _ (turn_str _ z t "str_iterator" (.inr rfl)) ⟨_, Heap.get?_push_size _ rfl, rfl, rfl⟩ q)
    · exact wpAny_pyIter_ascii ha (pi_one (tk := s1.toks) I1 _ (turn_str _ z t "str_ascii_iterator" (.inl rfl)) ⟨_, Heap.get?_push_size _ rfl, rfl, rfl⟩ q)
@[simp] def aOne (f : Ex) : Ax := aCons f aNil
@[simp] def one (g : Sv → Option (List Dt)) : List Sv → Option (List Dt)
  | [s] => g s
  | _ => none
theorem ir_one {G : Gd} {Z : Zn} {f : Ex} {gI : List Sv → Option (List Dt)} {σ : L2.St} {H : Hp} {Rk : It → Hp → Prop} (h : IR G Z W (aOne f) gI σ H Rk) :
    ER G Z W f σ H fun v H1 => ∃ R1 ts vs s e1 items, Cfg G Z R1 H1 (s :: ts) (v :: vs) e1 σ ∧ gI [s] = some items ∧ ∀ J, Wk G R1 H1 [s] [v] J items → Rk J H1 := by
  obtain ⟨R, ts, vs, env, c, o⟩ := h
  refine ⟨R, ts, vs, env, c, ?_⟩
  revert o
  unfold aOne aCons aNil
  generalize f env = r
  intro o
  match r, o with
  | .exc x e, o => exact o
  | .bad, o => exact o
  | .ok (a, e), o =>
    intro v R' H' c'
    simp only [Res.bind] at o
    cases ht : takeA [a] e with
    | none => rw [ht] at o; exact o.elim
    | some t =>
      obtain ⟨ss, e1⟩ := t
      rw [ht] at o
      simp only at o
      cases hq : gI ss with
      | none => rw [hq] at o; exact o.elim
      | some items =>
        rw [hq] at o
        simp only at o
        obtain ⟨ss0, tw, tm, c2⟩ := c'.tmp
        obtain ⟨c3, hl⟩ := take_all tm ht c2
        cases ss with
        | nil => cases hl
        | cons s r =>
          cases r with
          | cons _ _ => cases hl
          | nil => exact ⟨R', ts, vs, s, e1, items, c3, hq, fun J wk => o J [v] ss0 tw R' H' tm c3 hl wk⟩
theorem ir_args {G : Gd} {Z : Zn} {fA : Ax} {gI : List Sv → Option (List Dt)} {σ : L2.St} {H : Hp} {Rk : It → Hp → Prop} (h : IR G Z W fA gI σ H Rk) :
    AR G Z W fA σ H fun ws H1 => ∃ R1 ts vs ss e1 items, Cfg G Z R1 H1 (ss ++ ts) (ws ++ vs) e1 σ ∧ ss.length = ws.length ∧ gI ss = some items ∧ ∀ J, Wk G R1 H1 ss ws J items → Rk J H1 := by
  obtain ⟨R, ts, vs, env, c, o⟩ := h
  refine ⟨R, ts, vs, env, c, ?_⟩
  revert o
  generalize fA env = r
  intro o
  match r, o with
  | .exc x e, o => exact o
  | .bad, o => exact o
  | .ok (as, e), o =>
    rintro ws R' H' ⟨ss0, tw, tm, c2⟩
    simp only at o
    cases ht : takeA as e with
    | none => rw [ht] at o; exact o.elim
    | some t =>
      obtain ⟨ss, e1⟩ := t
      rw [ht] at o
      simp only at o
      cases hq : gI ss with
      | none => rw [hq] at o; exact o.elim
      | some items =>
        rw [hq] at o
        simp only at o
        obtain ⟨c3, hl⟩ := take_all tm ht c2
        exact ⟨R', ts, vs, ss, e1, items, c3, hl, hq, fun J wk => o J ws ss0 tw R' H' tm c3 hl wk⟩
theorem vi_seq {e : Expr} {f : Ex} (h : VE C X W e f) : VI C X W tg e (aOne f) (one elems) := by
  refine ⟨fun Z => pi_imp (pi_seq (h.run Z)) fun σ H Rk h => ?_⟩
  refine (ir_one h).mono fun v H1 ⟨R1, ts, vs, s, e1, items, c, hq, k⟩ => ?_
  have lists : elemsL s = some items → (∃ a, v = .ref a ∧ (∃ xs, SqL X.K H1 a xs) ∧ Rk (Itl X.K a) H1) := fun hl => by
    obtain ⟨a, ws, rfl, hr, hs, hk⟩ := elemsL_kp c hl
    exact ⟨a, rfl, ⟨ws, hs⟩, k _ (wk_list hr fun R' H' q => hk _ _ R' H' q)⟩
  cases s with
  | lst ss => exact .inl (lists hq)
  | ins _ _ _ => exact .inl (lists hq)
  | fz d =>
    cases d with
    | tup ds =>
      cases hq
      obtain ⟨a, ws, rfl, hr, hs, hk⟩ := elemsT_kp c
      exact .inr (.inl ⟨a, rfl, ⟨ws, hs⟩, k _ (wk_tup hr fun R' H' q => hk _ _ R' H' q)⟩)
    | str x =>
      cases hq
      have := c.top
      cases this
      exact .inr (.inr ⟨x, rfl, k _ wk_str⟩)
    | lst _ => exact .inl (lists hq)
    | non => exact .inl (lists hq)
    | bl _ => exact .inl (lists hq)
    | int _ => exact .inl (lists hq)
    | obj _ _ _ => exact .inl (lists hq)
def rangeD (lo : Int) (n : Nat) : List Dt := (List.range n).map fun k : Nat => Dt.int (lo + (k : Int))
def small62 (i : Int) : Bool := decide (-(2 ^ 62) ≤ i ∧ i < 2 ^ 62)
@[simp] def gR1 : List Sv → Option (List Dt)
  | [.fz (.int j)] => if small62 j then some (rangeD 0 j.toNat) else none
  | _ => none
@[simp] def gR2 : List Sv → Option (List Dt)
  | [.fz (.int i), .fz (.int j)] => if small62 i && small62 j then some (rangeD i (j - i).toNat) else none
  | _ => none
def gDown : List Sv → Option (List Dt)
  | [.fz (.int i), .fz (.int j), .fz (.int (-1))] => if small62 i && small62 j then some ((List.range (i - j).toNat).map fun k : Nat => Dt.int (i + (k : Int) * (-1))) else none
  | _ => none
@[simp] def gEnum : List Sv → Option (List Dt)
  | [s] => (elemsL s).map enumD
  | _ => none
@[simp] def gZip : List Sv → Option (List Dt)
  | [s, u] => (elemsL s).bind fun a => (elemsL u).map fun b => zipD a b
  | _ => none
@[simp] def gRev : List Sv → Option (List Dt)
  | [s] => (elemsL s).map List.reverse
  | _ => none
theorem AR.mono {G : Gd} {Z : Zn} {f : Ax} {σ : L2.St} {H : Hp} {Q Q' : List V → Hp → Prop} (h : AR G Z W f σ H Q) (i : ∀ v H, Q v H → Q' v H) : AR G Z W f σ H Q' := by
  obtain ⟨R, ts, vs, env, c, h⟩ := h
  refine ⟨R, ts, vs, env, c, ?_⟩
  revert h
  generalize f env = r
  intro h
  match r, h with
  | .ok (a, e), h => exact fun v R' H' x => i _ _ (h v R' H' x)
  | .exc x e, h => exact h
theorem small62_ok {i : Int} (h : small62 i = true) : -(2 ^ 62) ≤ i ∧ i < 2 ^ 62 := of_decide_eq_true h
theorem Cfg.int1 {G : Gd} {Z : Zn} {R H : Hp} {i : Int} {ws : List V} {ts : List Sv} {vs : List V} {env : Env} {σ : L2.St} (c : Cfg G Z R H ([.fz (.int i)] ++ ts) (ws ++ vs) env σ) (hl : [Sv.fz (.int i)].length = ws.length) : ws = [.int i] := by
  match ws, hl with
  | [w], _ =>
    have := Cfg.top (d := .int i) (v := w) c
    cases this
    rfl
theorem Cfg.int2 {G : Gd} {Z : Zn} {R H : Hp} {i j : Int} {ws : List V} {ts : List Sv} {vs : List V} {env : Env} {σ : L2.St} (c : Cfg G Z R H ([.fz (.int i), .fz (.int j)] ++ ts) (ws ++ vs) env σ) (hl : [Sv.fz (.int i), .fz (.int j)].length = ws.length) : ws = [.int i, .int j] := by
  match ws, hl with
  | [w, u], _ =>
    have e1 := Cfg.top (d := .int i) (v := w) (ts := .fz (.int j) :: ts) (vs := u :: vs) c
    have e2 := Cfg.top2 (s := .fz (.int i)) (d := .int j) (v' := w) (v := u) (ts := ts) (vs := vs) c
    cases e1
    cases e2
    rfl
theorem vi_range1 {a : Expr} {fA : Ax} {p pos : Pos} (hg : Gl X "range") (hm : X.mg "range" = none) (ha : VA C X W [a] fA) (hs : starEach [a] X.env = [(false, eval a X.env)] := by rfl) : VI C X W tg (.Call (.Name "range" p) [a] [] pos) fA gR1 := by
  refine ⟨fun Z => pi_imp (pi_range1 hg hm (ha.run Z) hs) fun σ H Rk h => (ir_args h).mono fun ws H1 ⟨R1, ts, vs, ss, e1, items, c, hl, hq, k⟩ => ?_⟩
  unfold gR1 at hq
  split at hq
  · rename_i j
    split at hq
    · rename_i hj
      cases hq
      cases c.int1 hl
      obtain ⟨h1, h2⟩ := small62_ok hj
      exact ⟨j, rfl, h1, h2, k _ wk_range⟩
    · cases hq
  · cases hq
theorem vi_range2 {a b : Expr} {fA : Ax} {p pos : Pos} (hg : Gl X "range") (hm : X.mg "range" = none) (ha : VA C X W [a, b] fA) (hs : starEach [a, b] X.env = [(false, eval a X.env), (false, eval b X.env)] := by rfl) (hs2 : starEach [b] X.env = [(false, eval b X.env)] := by rfl) : VI C X W tg (.Call (.Name "range" p) [a, b] [] pos) fA gR2 := by
  refine ⟨fun Z => pi_imp (pi_range2 hg hm (ha.run Z) hs hs2) fun σ H Rk h => (ir_args h).mono fun ws H1 ⟨R1, ts, vs, ss, e1, items, c, hl, hq, k⟩ => ?_⟩
  unfold gR2 at hq
  split at hq
  · rename_i i j
    split at hq
    · rename_i hj
      cases hq
      cases c.int2 hl
      obtain ⟨h0, h0'⟩ := Bool.and_eq_true_iff.mp hj
      obtain ⟨h1, h2⟩ := small62_ok h0
      obtain ⟨h3, h4⟩ := small62_ok h0'
      exact ⟨i, j, rfl, ⟨h1, h2, h3, h4⟩, k _ wk_range⟩
    · cases hq
  · cases hq
theorem vi_enum {elts : List Expr} {kk : Nat} {tpos : Pos} {a : Expr} {fA : Ax} {p pos : Pos} (hg : Gl X "enumerate") (hm : X.mg "enumerate" = none) (ha : VA C X W [a] fA) (hs : starEach [a] X.env = [(false, eval a X.env)] := by rfl) : VI C X W (.Tuple elts kk tpos) (.Call (.Name "enumerate" p) [a] [] pos) fA gEnum := by
  refine ⟨fun Z => pi_imp (pi_enum hg hm (ha.run Z) hs) fun σ H Rk h => (ir_args h).mono fun ws H1 ⟨R1, ts, vs, ss, e1, items, c, hl, hq, k⟩ => ?_⟩
  unfold gEnum at hq
  split at hq
  · rename_i s
    match ws, hl with
    | [w], _ =>
      cases he : elemsL s with
      | none => rw [he] at hq; cases hq
      | some ds =>
        rw [he] at hq
        cases hq
        obtain ⟨a, us, rfl, hr, hs, hk⟩ := elemsL_kp c he
        exact ⟨a, us, rfl, hs, k _ (wk_enum hr fun R' H' q => hk _ _ R' H' q)⟩
  · cases hq
theorem vi_rev {a : Expr} {fA : Ax} {p pos : Pos} (hg : Gl X "reversed") (hm : X.mg "reversed" = none) (ha : VA C X W [a] fA) (hs : starEach [a] X.env = [(false, eval a X.env)] := by rfl) : VI C X W tg (.Call (.Name "reversed" p) [a] [] pos) fA gRev := by
  refine ⟨fun Z => pi_imp (pi_reversed hg hm (ha.run Z) hs) fun σ H Rk h => (ir_args h).mono fun ws H1 ⟨R1, ts, vs, ss, e1, items, c, hl, hq, k⟩ => ?_⟩
  unfold gRev at hq
  split at hq
  · rename_i s
    match ws, hl with
    | [w], _ =>
      cases he : elemsL s with
      | none => rw [he] at hq; cases hq
      | some ds =>
        rw [he] at hq
        cases hq
        obtain ⟨a, us, rfl, hr, hs, hk⟩ := elemsL_kp c he
        exact ⟨a, us, rfl, hs, k _ (wk_rev hr fun R' H' q => hk _ _ R' H' q)⟩
  · cases hq
theorem Kp.tail {R0 H0 : Hp} {s : Sv} {w : V} {ss : List Sv} {ws : List V} {R H : Hp} (k : Kp R0 H0 (s :: ss) (w :: ws) R H) : Kp R0 H0 ss ws R H := ⟨k.rs, k.sub, fun n l a h1 h2 => k.at_ (n + 1) l a (by simpa using h1) (by simpa using h2)⟩
theorem vi_zip {elts : List Expr} {kk : Nat} {tpos : Pos} {a b : Expr} {fA : Ax} {p pos : Pos} (hg : Gl X "zip") (hm : X.mg "zip" = none) (ha : VA C X W [a, b] fA) (hs : starEach [a, b] X.env = (false, eval a X.env) :: starEach [b] X.env := by rfl) (hpl : (backTo pos (starEach [b] X.env)).any (·.1) = false := by rfl) : VI C X W (.Tuple elts kk tpos) (.Call (.Name "zip" p) [a, b] [] pos) fA gZip := by
  refine ⟨fun Z => pi_imp (pi_zip hg hm (ha.run Z) hs hpl) fun σ H Rk h => (ir_args h).mono fun ws H1 ⟨R1, ts, vs, ss, e1, items, c, hl, hq, k⟩ => ?_⟩
  unfold gZip at hq
  split at hq
  · rename_i s u
    match ws, hl with
    | [w, w2], _ =>
      cases he : elemsL s with
      | none => rw [he] at hq; cases hq
      | some ds =>
        cases he2 : elemsL u with
        | none => rw [he, he2] at hq; cases hq
        | some es =>
          rw [he, he2] at hq
          cases hq
          obtain ⟨a, us, rfl, hr, hs, hk⟩ := elemsL_kp c he
          obtain ⟨b, us2, rfl, hr2, hs2, hk2⟩ := elemsL_kp (Cfg.pop c) he2
          exact ⟨a, b, us, us2, rfl, hs, hs2, k _ (wk_zip hr hr2 (fun R' H' q => hk _ _ R' H' q) fun R' H' q => hk2 _ _ R' H' q.tail)⟩
  · cases hq
end
end Fw
set_option Elab.async false
set_option linter.all false
set_option maxRecDepth 100000
set_option maxHeartbeats 1000000
/-! What the operators and the built-ins do to values without a heap. -/
namespace Fw
open PySem PySem.Spec PyProof.Rows L2

abbrev Bf := List Sv → Option (Sv × List Sv)
/-- two arguments, which stay -/
@[simp] def keep2 (g : Sv → Sv → Option Sv) : Bf := fun ss => match ss with
  | [s, u] => (g s u).map fun r => (r, [s, u])
  | _ => none
@[simp] def keep1 (g : Sv → Option Sv) : Bf := fun ss => match ss with
  | [s] => (g s).map fun r => (r, [s])
  | _ => none
section
variable {G : Gd}
theorem srv2 {r : R2} {g : Sv → Sv → Option Sv} (h : ∀ Z R H s u x y ts vs env σ w Q, Cfg G Z R H (s :: u :: ts) (x :: y :: vs) env σ → g s u = some w →
    (∀ v R' H', Cfg G Z R' H' (w :: s :: u :: ts) (v :: x :: y :: vs) env σ → Q v H') → r x y H Q) : Srv G (r2l r) (keep2 g) := by
  intro Z R H ss ws ts vs env σ s ss' Q hl c hg _ q
  obtain ⟨s1, s2, rfl⟩ : ∃ s1 s2, ss = [s1, s2] := by
    unfold keep2 at hg
    split at hg
    · exact ⟨_, _, rfl⟩
    · cases hg
  match ws, hl with
  | [x, y], _ =>
    have hg : (g s1 s2).map (fun r => (r, [s1, s2])) = some (s, ss') := hg
    cases he : g s1 s2 with
    | none => rw [he] at hg; cases hg
    | some w =>
      rw [he] at hg
      cases hg
      exact h Z R H s1 s2 x y ts vs env σ _ Q c he q
theorem srv1 {r : List V → Hp → VK → Prop} {g : Sv → Option Sv} (h : ∀ Z R H s x ts vs env σ w Q, Cfg G Z R H (s :: ts) (x :: vs) env σ → g s = some w →
    (∀ v R' H', Cfg G Z R' H' (w :: s :: ts) (v :: x :: vs) env σ → Q v H') → r [x] H Q) : Srv G r (keep1 g) := by
  intro Z R H ss ws ts vs env σ s ss' Q hl c hg _ q
  obtain ⟨s1, rfl⟩ : ∃ s1, ss = [s1] := by
    unfold keep1 at hg
    split at hg
    · exact ⟨_, rfl⟩
    · cases hg
  match ws, hl with
  | [x], _ =>
    have hg : (g s1).map (fun r => (r, [s1])) = some (s, ss') := hg
    cases he : g s1 with
    | none => rw [he] at hg; cases hg
    | some w =>
      rw [he] at hg
      cases hg
      exact h Z R H s1 x ts vs env σ _ Q c he q

/-! ### ints -/
@[simp] def i2 (p : Int → Int → Bool) (f : Int → Int → Dt) : Sv → Sv → Option Sv
  | .fz (.int i), .fz (.int j) => if p i j then some (.fz (f i j)) else none
  | _, _ => none
theorem srv_i2 {p : Int → Int → Bool} {f : Int → Int → Dt} {r : R2} (v : Int → Int → V) (hv : ∀ R i j, RpD G R (f i j) (v i j)) (hr : ∀ i j H Q, p i j = true → Q (v i j) H → r (.int i) (.int j) H Q) : Srv G (r2l r) (keep2 (i2 p f)) := by
  refine srv2 fun Z R H s u x y ts vs env σ w Q c hg q => ?_
  unfold i2 at hg
  split at hg
  · rename_i i j
    split at hg
    · rename_i hp
      cases hg
      have e1 := c.top
      have e2 := c.top2
      cases e1
      cases e2
      exact hr i j H Q hp (q _ R H (c.push (hv R i j)))
    · cases hg
  · cases hg
@[simp] def pT : Int → Int → Bool := fun _ _ => true
@[simp] def gSub : Bf := keep2 (i2 pT fun i j => .int (i - j))
@[simp] def pMul (i j : Int) : Bool := decide ((-(2 ^ 64) < i ∧ i < 2 ^ 64) ∨ (-(2 ^ 64) < j ∧ j < 2 ^ 64))
@[simp] def gMul : Bf := keep2 (i2 pMul fun i j => .int (i * j))
@[simp] def pDiv (_ j : Int) : Bool := decide (j ≠ 0 ∧ j.natAbs < 1073741824)
@[simp] def gDiv : Bf := keep2 (i2 pDiv fun i j => .int (i.fdiv j))
@[simp] def pMod (_ j : Int) : Bool := decide (j ≠ 0)
@[simp] def gMod : Bf := keep2 (i2 pMod fun i j => .int (i.fmod j))
@[simp] def pPow (i j : Int) : Bool := decide (0 ≤ j ∧ j ≤ 1000000 ∧ i.natAbs < 2 ^ 64)
@[simp] def gPow : Bf := keep2 (i2 pPow fun i j => .int (i ^ j.toNat))
@[simp] def gShl : Bf := keep2 (i2 pPow fun i j => .int (i * 2 ^ j.toNat))
@[simp] def pShr (_ j : Int) : Bool := decide (0 ≤ j)
@[simp] def gShr : Bf := keep2 (i2 pShr fun i j => .int (i / 2 ^ j.toNat))
@[simp] def gAnd : Bf := keep2 (i2 pT fun i j => .int (Builtin.bitAnd i j))
@[simp] def gOr : Bf := keep2 (i2 pT fun i j => .int (Builtin.bitOr i j))
@[simp] def gXor : Bf := keep2 (i2 pT fun i j => .int (Builtin.bitXor i j))
@[simp] def gLt : Bf := keep2 (i2 pT fun i j => .bl (decide (i < j)))
@[simp] def gLe : Bf := keep2 (i2 pT fun i j => .bl (decide (i ≤ j)))
@[simp] def gGt : Bf := keep2 (i2 pT fun i j => .bl (decide (j < i)))
@[simp] def gGe : Bf := keep2 (i2 pT fun i j => .bl (decide (j ≤ i)))
theorem srv_sub : Srv G (r2l (rI0 fun i j => .int (i - j))) gSub := srv_i2 (fun i j => .int (i - j)) (fun _ _ _ => rfl) fun i j H Q _ q => ⟨i, j, rfl, rfl, q⟩
theorem srv_mul : Srv G (r2l (rI CMul fun i j => .int (i * j))) gMul := srv_i2 (fun i j => .int (i * j)) (fun _ _ _ => rfl) fun i j H Q hp q => ⟨i, j, rfl, rfl, (of_decide_eq_true hp : (-(2 ^ 64) < i ∧ i < 2 ^ 64) ∨ (-(2 ^ 64) < j ∧ j < 2 ^ 64)), q⟩
theorem srv_div : Srv G (r2l (rI CDivN fun i j => .int (i.fdiv j))) gDiv := srv_i2 (fun i j => .int (i.fdiv j)) (fun _ _ _ => rfl) fun i j H Q hp q => ⟨i, j, rfl, rfl, (of_decide_eq_true hp : j ≠ 0 ∧ j.natAbs < 1073741824), q⟩
theorem srv_mod : Srv G (r2l (rI (fun _ j => j ≠ 0) fun i j => .int (i.fmod j))) gMod := srv_i2 (fun i j => .int (i.fmod j)) (fun _ _ _ => rfl) fun i j H Q hp q => ⟨i, j, rfl, rfl, of_decide_eq_true hp, q⟩
theorem srv_pow : Srv G (r2l (rI CPow fun i j => .int (i ^ j.toNat))) gPow := srv_i2 (fun i j => .int (i ^ j.toNat)) (fun _ _ _ => rfl) fun i j H Q hp q => ⟨i, j, rfl, rfl, (of_decide_eq_true hp : 0 ≤ j ∧ j ≤ 1000000 ∧ i.natAbs < 2 ^ 64), q⟩
theorem srv_shl : Srv G (r2l (rI CPow fun i j => .int (i * 2 ^ j.toNat))) gShl := srv_i2 (fun i j => .int (i * 2 ^ j.toNat)) (fun _ _ _ => rfl) fun i j H Q hp q => ⟨i, j, rfl, rfl, (of_decide_eq_true hp : 0 ≤ j ∧ j ≤ 1000000 ∧ i.natAbs < 2 ^ 64), q⟩
theorem srv_shr : Srv G (r2l (rI (fun _ j => 0 ≤ j) fun i j => .int (i / 2 ^ j.toNat))) gShr := srv_i2 (fun i j => .int (i / 2 ^ j.toNat)) (fun _ _ _ => rfl) fun i j H Q hp q => ⟨i, j, rfl, rfl, of_decide_eq_true hp, q⟩
theorem srv_and : Srv G (r2l (rI0 fun i j => .int (Builtin.bitAnd i j))) gAnd := srv_i2 (fun i j => .int (Builtin.bitAnd i j)) (fun _ _ _ => rfl) fun i j H Q hp q => ⟨i, j, rfl, rfl, q⟩
theorem srv_or : Srv G (r2l (rI0 fun i j => .int (Builtin.bitOr i j))) gOr := srv_i2 (fun i j => .int (Builtin.bitOr i j)) (fun _ _ _ => rfl) fun i j H Q hp q => ⟨i, j, rfl, rfl, q⟩
theorem srv_xor : Srv G (r2l (rI0 fun i j => .int (Builtin.bitXor i j))) gXor := srv_i2 (fun i j => .int (Builtin.bitXor i j)) (fun _ _ _ => rfl) fun i j H Q hp q => ⟨i, j, rfl, rfl, q⟩
theorem srv_lt : Srv G (r2l (rI0 fun i j => .bl (decide (i < j)))) gLt := srv_i2 (fun i j => .bl (decide (i < j))) (fun _ _ _ => rfl) fun i j H Q hp q => ⟨i, j, rfl, rfl, q⟩
theorem srv_le : Srv G (r2l (rI0 fun i j => .bl (decide (i ≤ j)))) gLe := srv_i2 (fun i j => .bl (decide (i ≤ j))) (fun _ _ _ => rfl) fun i j H Q hp q => ⟨i, j, rfl, rfl, q⟩
theorem srv_gt : Srv G (r2l (rI0 fun i j => .bl (decide (j < i)))) gGt := srv_i2 (fun i j => .bl (decide (j < i))) (fun _ _ _ => rfl) fun i j H Q hp q => ⟨i, j, rfl, rfl, q⟩
theorem srv_ge : Srv G (r2l (rI0 fun i j => .bl (decide (j ≤ i)))) gGe := srv_i2 (fun i j => .bl (decide (j ≤ i))) (fun _ _ _ => rfl) fun i j H Q hp q => ⟨i, j, rfl, rfl, q⟩

/-! ### + -/
@[simp] def addS : Sv → Sv → Option Sv
  | .fz (.int i), .fz (.int j) => some (.fz (.int (i + j)))
  | .fz (.str a), .fz (.str b) => if a.length + b.length ≤ sizeLine then some (.fz (.str (a ++ b))) else none
  | .fz (.tup a), .fz (.tup b) => if a.length + b.length ≤ sizeLine then some (.fz (.tup (a ++ b))) else none
  | s, u => (elemsL s).bind fun a => (elemsL u).bind fun b => if a.length + b.length ≤ sizeLine then some (.lst ((a ++ b).map .fz)) else none
@[simp] def gAdd : Bf := keep2 addS
end
section
variable {X : Cx}
/-- lists, whatever they are -/
def rCatL (K : PySem.W.Frag) : R2 := fun x y H Q => ∃ l b xs zs, x = .ref l ∧ y = .ref b ∧ SqL K H l xs ∧ SqL K H b zs ∧ xs.length + zs.length ≤ sizeLine ∧ ∀ p, H p = none → Q (.ref p) (upd H p (.lst (xs ++ zs)))
theorem op_catL : OpR X (binaryOp .Add) (rCatL X.K) := by
  intro pins s σ H x y v u Q I rx ry h
  obtain ⟨l, b, xs, zs, rfl, rfl, hH, hB, hz, q⟩ := h
  cases rx
  cases ry
  obtain ⟨its, r, p1, _⟩ := I.list hH
  obtain ⟨its2, r2, p2, _⟩ := I.list hB
  obtain ⟨⟨cls, dd, data, sl⟩, n, ho, hc, hdn, hd⟩ := p1
  obtain ⟨⟨cls2, dd2, data2, sl2⟩, n2, ho2, hc2, hdn2, hd2⟩ := p2
  simp only at hc hd hc2 hd2
  subst hc hd hc2 hd2
  have e : its.toArray ++ its2.toArray = (its ++ its2).toArray := by simp
  refine concat_meets ⟨_, ho, rfl⟩ ⟨_, ho2, rfl⟩ noFill_list_add seq_list_add PySem.F.slot_list_add PySem.F.entry_list_add (PySem.F.args_list_add_2 _ _) (list_addW l b its.toArray its2.toArray n n2 dd dd2 sl sl2 (by rw [List.size_toArray, List.size_toArray, ← r.length, ← r2.length]; exact hz)) ⟨ho, ho2, ?_⟩
  rw [e]
  exact ⟨.ref _, _, I.lnew (t' := s.toks) (r.append r2) (by rw [List.length_append]; exact hz), rfl, q _ I.fresh⟩
def rAdd (K : PySem.W.Frag) : R2 := fun x y H Q => (rI0 fun i j => .int (i + j)) x y H Q ∨ (∃ i j, x = .str i ∧ y = .str j ∧ i.length + j.length ≤ sizeLine ∧ Q (.str (i ++ j)) H) ∨ rCatA K x y H Q ∨ rCatL K x y H Q
theorem op_addS : OpR X (binaryOp .Add) (rAdd X.K) := by
  intro pins s σ H x y v u Q I rx ry h
  rcases h with h | h | h | h
  · exact op_add pins s σ H x y v u Q I rx ry h
  · exact op_add_str pins s σ H x y v u Q I rx ry h
  · exact op_catA pins s σ H x y v u Q I rx ry h
  · exact op_catL pins s σ H x y v u Q I rx ry h
end
section
variable {G : Gd}
theorem RpDs.append {R : Hp} : ∀ {a b : List Dt} {v u : List V}, RpDs G R a v → RpDs G R b u → RpDs G R (a ++ b) (v ++ u)
  | [], b, v, u, h, h2 => by
    have : v = [] := h
    subst this
    exact h2
  | d :: a, b, _, u, ⟨v, vr, e, h, r⟩, h2 => by
    subst e
    exact ⟨v, vr ++ u, rfl, h, RpDs.append r h2⟩
/-- a new list of frozen things -/
theorem Cfg.newFz {Z : Zn} {R H : Hp} {ts : List Sv} {vs : List V} {env : Env} {σ : L2.St} {p : Addr} {ds : List Dt} {ws : List V} (c : Cfg G Z R H ts vs env σ) (hr : RpDs G R ds ws) (hp : H p = none) : Cfg G Z R (upd H p (.lst ws)) (.lst (ds.map .fz) :: ts) (.ref p :: vs) env σ := by
  have h : ∀ {ds : List Dt} {ws : List V}, RpDs G R ds ws → RpSs G R H (ds.map .fz) ws fun _ => 0 := by
    intro ds
    induction ds with
    | nil => intro ws h; exact ⟨h, fun _ => rfl⟩
    | cons d ds ih => rintro ws ⟨v, vr, e, h, r⟩; exact ⟨v, vr, fun _ => 0, fun _ => 0, e, ⟨h, fun _ => rfl⟩, ih r, fun _ => rfl⟩
  refine Cfg.newLst (ss := ds.map .fz) (ws := ws) (by rw [List.length_map, hr.len]) (c.reord fun g hg => ⟨_, RpSs.join hg (h hr), fun b => ?_⟩) hp
  show 0 + g b ≤ g b
  omega
theorem srv_add : Srv G (r2l (rAdd G.K)) gAdd := by
  refine srv2 fun Z R H s u x y ts vs env σ w Q c hg q => ?_
  have lists : ((elemsL s).bind fun a => (elemsL u).bind fun b => if a.length + b.length ≤ sizeLine then some (Sv.lst ((a ++ b).map .fz)) else none) = some w → rAdd G.K x y H Q := fun hg => by
    cases h1 : elemsL s with
    | none => rw [h1] at hg; cases hg
    | some a =>
      cases h2 : elemsL u with
      | none => rw [h1, h2] at hg; cases hg
      | some b =>
        rw [h1, h2] at hg
        have hg : (if a.length + b.length ≤ sizeLine then some (Sv.lst ((a ++ b).map .fz)) else none) = some w := hg
        split at hg
        · rename_i hz
          cases hg
          obtain ⟨l, ws, rfl, r1, s1, _⟩ := elemsL_kp c h1
          obtain ⟨l2, ws2, rfl, r2, s2, _⟩ := elemsL_kp (Cfg.pop c) h2
          exact .inr (.inr (.inr ⟨l, l2, ws, ws2, rfl, rfl, s1, s2, by rw [← r1.len, ← r2.len]; exact hz, fun p hp => q _ _ _ (c.newFz (r1.append r2) hp)⟩))
        · cases hg
  unfold addS at hg
  split at hg
  · rename_i i j
    cases hg
    have e1 := c.top
    have e2 := c.top2
    cases e1
    cases e2
    exact .inl ⟨i, j, rfl, rfl, q _ _ _ (c.push rfl)⟩
  · rename_i a b
    split at hg
    · rename_i hz
      cases hg
      have e1 := c.top
      have e2 := c.top2
      cases e1
      cases e2
      exact .inr (.inl ⟨a, b, rfl, rfl, hz, q _ _ _ (c.push rfl)⟩)
    · cases hg
  · rename_i a b
    split at hg
    · rename_i hz
      cases hg
      obtain ⟨l, ws, rfl, h1, r1⟩ := c.top
      obtain ⟨l2, ws2, rfl, h2, r2⟩ := c.top2
      refine .inr (.inr (.inl ⟨l, l2, ws, ws2, rfl, rfl, sqT_mono c.wf h1, sqT_mono c.wf h2, by rw [← r1.len, ← r2.len]; exact hz, fun e => ?_, fun e1 e2 => ?_, fun e1 e2 p hp => ?_⟩))
      · subst e
        have : a = [] := List.length_eq_zero_iff.mp r1.len
        subst this
        exact q _ _ _ (c.push ⟨l2, ws2, rfl, h2, r2⟩)
      · subst e2
        have : b = [] := List.length_eq_zero_iff.mp r2.len
        subst this
        rw [List.append_nil] at q
        exact q _ _ _ (c.push ⟨l, ws, rfl, h1, r1⟩)
      · obtain ⟨c2, e3⟩ := c.grow (.tup (ws ++ ws2)) hp
        exact q _ _ _ (c2.push ⟨p, ws ++ ws2, rfl, .inl (.inl upd_same), (r1.append r2).mono e3⟩)
    · cases hg
  · exact lists hg
end
end Fw
set_option Elab.async false
set_option linter.all false
set_option maxRecDepth 100000
set_option maxHeartbeats 1000000
/-! ==, in, len, subscripts, slices, sums, lists and their methods. -/
namespace Fw
open PySem PySem.Spec PyProof.Rows L2

mutual
def Dt.py : Dt → PyData
  | .non => .none
  | .bl b => .bool b
  | .int i => .int i
  | .str x => .str x
  | .tup ds => .tuple (pys ds)
  | .lst ds => .list (pys ds)
  | .obj _ _ _ => .dict []
def pys : List Dt → List PyData
  | [] => []
  | d :: ds => d.py :: pys ds
end
@[simp] def datOf : Sv → Option Dt
  | .fz d => some d
  | .lst ss => (allFz ss).map .lst
  | .ins _ _ _ => none
def okD (d : Dt) : Bool := SeqAt.shaped d.py
section
variable {G : Gd}
theorem shaped_nodict {ds : List (PyData × PyData)} : PyData.canLay0 (.dict ds) = false := by simp [PyData.canLay0]
mutual
theorem dp_of {K : PySem.W.Frag} {P w C} {R H : Hp} (e : Same R H) : ∀ {d : Dt} {v : V}, d.py.canLay0 = true → RpD ⟨P, w, K, C⟩ R d v → Dp K H v d.py
  | .non, _, _, h => by cases h; exact .non
  | .bl b, _, _, h => by cases h; exact .bl b
  | .int i, _, _, h => by cases h; exact .int i
  | .str x, _, _, h => by cases h; exact .str x
  | .tup ds, _, q, ⟨a, vs, e1, h, r⟩ => by subst e1; exact .tup (sqT_mono e h) (dps_of e (by simpa [Dt.py, PyData.canLay0] using q) r)
  | .lst ds, _, q, ⟨a, vs, e1, h, r⟩ => by subst e1; exact .lst (e.seq h) (dps_of e (by simpa [Dt.py, PyData.canLay0] using q) r)
  | .obj _ _ _, _, q, _ => by rw [Dt.py, shaped_nodict] at q; cases q
theorem dps_of {K : PySem.W.Frag} {P w C} {R H : Hp} (e : Same R H) : ∀ {ds : List Dt} {vs : List V}, PyData.canLayAll0 (pys ds) = true → RpDs ⟨P, w, K, C⟩ R ds vs → DpAll K H vs (pys ds)
  | [], _, _, h => by cases h; exact .nil
  | d :: ds, _, q, ⟨v, vr, e1, h, r⟩ => by
    subst e1
    simp only [pys, PyData.canLayAll0, Bool.and_eq_true] at q
    exact .cons (dp_of e q.1 h) (dps_of e q.2 r)
end
theorem datOf_ok {Z : Zn} {R H : Hp} {s : Sv} {v : V} {d : Dt} {ts : List Sv} {vs : List V} {env : Env} {σ : L2.St} (c : Cfg G Z R H (s :: ts) (v :: vs) env σ) (h : datOf s = some d) (q : okD d = true) : Dp G.K H v d.py := by
  have q1 := SeqAt.canLay_of_shaped q
  have sub := c.wf
  obtain ⟨f, r⟩ := c.topS
  cases s with
  | ins _ _ _ => cases h
  | fz d' => cases h; exact dp_of sub q1 r.1
  | lst ss =>
    obtain ⟨a, ws, g, rfl, ha, hs, _⟩ := r
    have h : (allFz ss).map Dt.lst = some d := h
    cases hq : allFz ss with
    | none => rw [hq] at h; cases h
    | some l =>
      rw [hq] at h
      cases h
      exact .lst (.inl (.inl ha)) (dps_of sub (by simpa [Dt.py, PyData.canLay0] using q1) (allFz_ok hq hs))
@[simp] def cmp2 (f : Dt → Dt → Option Bool) : Sv → Sv → Option Sv := fun s u => (datOf s).bind fun d => (datOf u).bind fun e => (f d e).map fun b => .fz (.bl b)
def eqD (d e : Dt) : Option Bool := if okD d && okD e then some (PyData.eqv d.py e.py) else none
def neD (d e : Dt) : Option Bool := if okD d && okD e then some (!PyData.eqv d.py e.py) else none
@[simp] def gEq : Bf := keep2 (cmp2 eqD)
@[simp] def gNe : Bf := keep2 (cmp2 neD)
theorem srv_cmp2 {f : Dt → Dt → Option Bool} {r : R2} (h : ∀ Z R H s u x y ts vs env σ d e b Q, Cfg G Z R H (s :: u :: ts) (x :: y :: vs) env σ → datOf s = some d → datOf u = some e → f d e = some b → Q (.bl b) H → r x y H Q) : Srv G (r2l r) (keep2 (cmp2 f)) := by
  refine srv2 fun Z R H s u x y ts vs env σ w Q c hg q => ?_
  unfold cmp2 at hg
  cases h1 : datOf s with
  | none => rw [h1] at hg; cases hg
  | some d =>
    cases h2 : datOf u with
    | none => rw [h1, h2] at hg; cases hg
    | some e =>
      rw [h1, h2] at hg
      have hg : (f d e).map (fun b => Sv.fz (.bl b)) = some w := hg
      cases h3 : f d e with
      | none => rw [h3] at hg; cases hg
      | some b =>
        rw [h3] at hg
        cases hg
        exact h Z R H s u x y ts vs env σ d e b Q c h1 h2 h3 (q _ R H (c.push rfl))
theorem srv_eq : Srv G (r2l (rEqD G.K)) gEq := srv_cmp2 fun Z R H s u x y ts vs env σ d e b Q c h1 h2 h3 q => by
  unfold eqD at h3
  split at h3
  · rename_i ho
    cases h3
    obtain ⟨o1, o2⟩ := Bool.and_eq_true_iff.mp ho
    exact ⟨_, _, datOf_ok c h1 o1, datOf_ok (Cfg.pop c) h2 o2, o1, o2, q⟩
  · cases h3
theorem srv_ne : Srv G (r2l (rNeD G.K)) gNe := srv_cmp2 fun Z R H s u x y ts vs env σ d e b Q c h1 h2 h3 q => by
  unfold neD at h3
  split at h3
  · rename_i ho
    cases h3
    obtain ⟨o1, o2⟩ := Bool.and_eq_true_iff.mp ho
    exact ⟨_, _, datOf_ok c h1 o1, datOf_ok (Cfg.pop c) h2 o2, o1, o2, q⟩
  · cases h3
/-- in: a list, a tuple, or a text that has one sign -/
def inD (d e : Dt) : Option Bool := match e with
  | .lst ds => if okD d && okD e then some ((pys ds).any fun z => PyData.eqv z d.py) else none
  | .tup ds => if okD d && okD e then some ((pys ds).any fun z => PyData.eqv z d.py) else none
  | .str y => match d with
    | .str x => if x.cps.size = 1 then some (decide (x.cps.getD 0 0 ∈ y.cps.toList)) else none
    | _ => none
  | _ => none
def gIn : Bf := keep2 (cmp2 inD)
def gNotIn : Bf := keep2 (cmp2 fun d e => (inD d e).map (!·))
end
section
variable {X : Cx}
def rInA (K : PySem.W.Frag) : R2 := fun x y H Q => rInD K x y H Q ∨ (∃ d ds, Dp K H x d ∧ Dp K H y (.tuple ds) ∧ SeqAt.shaped d = true ∧ SeqAt.shaped (.tuple ds) = true ∧ Q (.bl (ds.any fun z => PyData.eqv z d)) H) ∨ (∃ (c : Nat) (z : Str), x = .str ⟨#[c]⟩ ∧ y = .str z ∧ Q (.bl (decide (c ∈ z.cps.toList))) H)
def rNotInA (K : PySem.W.Frag) : R2 := fun x y H Q => rNotInD K x y H Q ∨ (∃ d ds, Dp K H x d ∧ Dp K H y (.tuple ds) ∧ SeqAt.shaped d = true ∧ SeqAt.shaped (.tuple ds) = true ∧ Q (.bl (!ds.any fun z => PyData.eqv z d)) H) ∨ (∃ (c : Nat) (z : Str), x = .str ⟨#[c]⟩ ∧ y = .str z ∧ Q (.bl (!decide (c ∈ z.cps.toList))) H)
theorem op_inA (hu : X.A.units + 65 < cLine) : OpR X (compareOp .In) (rInA X.K) := by
  intro pins s σ H x y v u Q I rx ry h
  rcases h with h | h | h
  · exact op_inD hu pins s σ H x y v u Q I rx ry h
  · obtain ⟨d, ds, hd, he, sd, se, q⟩ := h
    obtain ⟨as, r1⟩ := Dp.reads I d x v hd rx
    obtain ⟨bs, r2⟩ := Dp.reads I (.tuple ds) y u he ry
    exact SeqAt.in_tuple_reads r2 r1 (SeqAt.canLay_of_shaped se) (SeqAt.canLay_of_shaped sd) (room_in_shaped sd hu) ⟨.bl _, H, I, rfl, q⟩
  · exact op_in_sign pins s σ H x y v u Q I rx ry h
theorem op_notInA (hu : X.A.units + 65 < cLine) : OpR X (compareOp .NotIn) (rNotInA X.K) := by
  intro pins s σ H x y v u Q I rx ry h
  rcases h with h | h | h
  · exact op_notInD hu pins s σ H x y v u Q I rx ry h
  · obtain ⟨d, ds, hd, he, sd, se, q⟩ := h
    obtain ⟨as, r1⟩ := Dp.reads I d x v hd rx
    obtain ⟨bs, r2⟩ := Dp.reads I (.tuple ds) y u he ry
    exact SeqAt.notIn_tuple_reads r2 r1 (SeqAt.canLay_of_shaped se) (SeqAt.canLay_of_shaped sd) (room_in_shaped sd hu) ⟨.bl _, H, I, rfl, q⟩
  · exact op_notIn_sign pins s σ H x y v u Q I rx ry h
end
section
variable {G : Gd}
theorem str_one {x : Str} (h : x.cps.size = 1) : x = ⟨#[x.cps.getD 0 0]⟩ := by
  obtain ⟨⟨l⟩⟩ := x
  match l, h with
  | [c], _ => rfl
theorem datOf_str {Z : Zn} {R H : Hp} {s : Sv} {v : V} {x : Str} {ts : List Sv} {vs : List V} {env : Env} {σ : L2.St} (c : Cfg G Z R H (s :: ts) (v :: vs) env σ) (h : datOf s = some (.str x)) : v = .str x := by
  cases s with
  | ins _ _ _ => cases h
  | fz d => cases h; exact c.top
  | lst ss =>
    have h : (allFz ss).map Dt.lst = some (.str x) := h
    cases hq : allFz ss with
    | none => rw [hq] at h; cases h
    | some l => rw [hq] at h; cases h
theorem in_cases {Z : Zn} {R H : Hp} {s u : Sv} {x y : V} {ts : List Sv} {vs : List V} {env : Env} {σ : L2.St} {d e : Dt} {b : Bool} (c : Cfg G Z R H (s :: u :: ts) (x :: y :: vs) env σ) (h1 : datOf s = some d) (h2 : datOf u = some e) (h3 : inD d e = some b) :
    (∃ p ds, Dp G.K H x p ∧ Dp G.K H y (.list ds) ∧ SeqAt.shaped p = true ∧ SeqAt.shaped (.list ds) = true ∧ b = ds.any fun z => PyData.eqv z p) ∨ (∃ p ds, Dp G.K H x p ∧ Dp G.K H y (.tuple ds) ∧ SeqAt.shaped p = true ∧ SeqAt.shaped (.tuple ds) = true ∧ b = ds.any fun z => PyData.eqv z p) ∨ (∃ (c : Nat) (z : Str), x = .str ⟨#[c]⟩ ∧ y = .str z ∧ b = decide (c ∈ z.cps.toList)) := by
  unfold inD at h3
  split at h3
  · rename_i ds
    split at h3
    · rename_i ho
      cases h3
      obtain ⟨o1, o2⟩ := Bool.and_eq_true_iff.mp ho
      exact .inl ⟨d.py, pys ds, datOf_ok c h1 o1, by simpa [Dt.py] using datOf_ok (Cfg.pop c) h2 o2, o1, by simpa [okD, Dt.py] using o2, rfl⟩
    · cases h3
  · rename_i ds
    split at h3
    · rename_i ho
      cases h3
      obtain ⟨o1, o2⟩ := Bool.and_eq_true_iff.mp ho
      exact .inr (.inl ⟨d.py, pys ds, datOf_ok c h1 o1, by simpa [Dt.py] using datOf_ok (Cfg.pop c) h2 o2, o1, by simpa [okD, Dt.py] using o2, rfl⟩)
    · cases h3
  · rename_i y'
    split at h3
    · rename_i x'
      split at h3
      · rename_i hz
        cases h3
        have e1 := datOf_str c h1
        have e2 := datOf_str (Cfg.pop c) h2
        subst e1 e2
        exact .inr (.inr ⟨x'.cps.getD 0 0, y', by rw [← str_one hz], rfl, rfl⟩)
      · cases h3
    · cases h3
  · cases h3
theorem srv_in : Srv G (r2l (rInA G.K)) gIn := srv_cmp2 fun Z R H s u x y ts vs env σ d e b Q c h1 h2 h3 q => by
  rcases in_cases c h1 h2 h3 with ⟨p, ds, a1, a2, a3, a4, rfl⟩ | ⟨p, ds, a1, a2, a3, a4, rfl⟩ | ⟨k, z, rfl, rfl, rfl⟩
  · exact .inl ⟨p, ds, a1, a2, a3, a4, q⟩
  · exact .inr (.inl ⟨p, ds, a1, a2, a3, a4, q⟩)
  · exact .inr (.inr ⟨k, z, rfl, rfl, q⟩)
theorem srv_notIn : Srv G (r2l (rNotInA G.K)) gNotIn := srv_cmp2 fun Z R H s u x y ts vs env σ d e b Q c h1 h2 h3 q => by
  cases h4 : inD d e with
  | none => rw [h4] at h3; cases h3
  | some b0 =>
    rw [h4] at h3
    cases h3
    rcases in_cases c h1 h2 h4 with ⟨p, ds, a1, a2, a3, a4, rfl⟩ | ⟨p, ds, a1, a2, a3, a4, rfl⟩ | ⟨k, z, rfl, rfl, rfl⟩
    · exact .inl ⟨p, ds, a1, a2, a3, a4, q⟩
    · exact .inr (.inl ⟨p, ds, a1, a2, a3, a4, q⟩)
    · exact .inr (.inr ⟨k, z, rfl, rfl, q⟩)
/-! ### is None -/
def isNonS : Sv → Bool
  | .fz .non => true
  | _ => false
def gIsN : Bf := keep2 fun s u => match u with
  | .fz .non => some (.fz (.bl (isNonS s)))
  | _ => none
def gNotN : Bf := keep2 fun s u => match u with
  | .fz .non => some (.fz (.bl (!isNonS s)))
  | _ => none
theorem isNonS_ok {Z : Zn} {R H : Hp} {s : Sv} {v : V} {ts : List Sv} {vs : List V} {env : Env} {σ : L2.St} (c : Cfg G Z R H (s :: ts) (v :: vs) env σ) : isNonS s = decide (v = .non) := by
  obtain ⟨f, r⟩ := c.topS
  cases s with
  | ins _ _ _ => obtain ⟨a, _, _, _, rfl, _⟩ := r; rfl
  | lst ss => obtain ⟨a, _, _, rfl, _⟩ := r; rfl
  | fz d =>
    obtain ⟨r, _⟩ := r
    cases d with
    | non => cases r; rfl
    | bl _ => cases r; rfl
    | int _ => cases r; rfl
    | str _ => cases r; rfl
    | tup _ => obtain ⟨a, _, rfl, _⟩ := r; rfl
    | lst _ => obtain ⟨a, _, rfl, _⟩ := r; rfl
    | obj _ _ _ => obtain ⟨a, _, _, rfl, _⟩ := r; rfl
theorem srv_isN : Srv G (r2l fun x y H Q => y = .non ∧ Q (.bl (decide (x = .non))) H) gIsN := by
  refine srv2 fun Z R H s u x y ts vs env σ w Q c hg q => ?_
  split at hg
  · cases hg
    have := c.top2
    cases this
    rw [isNonS_ok c] at q
    exact ⟨rfl, q _ R H (c.push rfl)⟩
  · cases hg
theorem srv_notN : Srv G (r2l fun x y H Q => y = .non ∧ Q (.bl (!decide (x = .non))) H) gNotN := by
  refine srv2 fun Z R H s u x y ts vs env σ w Q c hg q => ?_
  split at hg
  · cases hg
    have := c.top2
    cases this
    rw [isNonS_ok c] at q
    exact ⟨rfl, q _ R H (c.push rfl)⟩
  · cases hg
/-! ### len, subscripts, slices -/
@[simp] def lenS : Sv → Option Nat
  | .fz (.tup ds) => some ds.length
  | .fz (.lst ds) => some ds.length
  | .lst ss => some ss.length
  | .fz (.str x) => if x.length ≤ sizeLine then some x.length else none
  | _ => none
@[simp] def gLen : Bf := keep1 fun s => (lenS s).map fun n => .fz (.int (n : Nat))
theorem srv_len : Srv G (fun xs H Q => ∃ x n, xs = [x] ∧ LenV G.K x H n ∧ Q (.int (n : Nat)) H) gLen := by
  refine srv1 fun Z R H s x ts vs env σ w Q c hg q => ?_
  cases hn : lenS s with
  | none => rw [hn] at hg; cases hg
  | some n =>
    rw [hn] at hg
    cases hg
    have sub := c.wf
    refine ⟨x, n, rfl, ?_, q _ R H (c.push rfl)⟩
    obtain ⟨f, r⟩ := c.topS
    cases s with
    | ins _ _ _ => cases hn
    | lst ss =>
      cases hn
      obtain ⟨a, ws, g, rfl, ha, hs, _⟩ := r
      exact .inl ⟨ws, .inl (.inl ha), hs.len⟩
    | fz d =>
      obtain ⟨r, _⟩ := r
      cases d with
      | tup ds =>
        cases hn
        obtain ⟨a, ws, rfl, ha, hs⟩ := r
        exact .inr ⟨ws, sqT_mono sub ha, hs.len⟩
      | lst ds =>
        cases hn
        obtain ⟨a, ws, rfl, ha, hs⟩ := r
        exact .inl ⟨ws, sub.seq ha, hs.len⟩
      | str x =>
        cases r
        simp only [lenS] at hn
        split at hn
        · rename_i hz
          cases hn
          exact ⟨hz, rfl⟩
        · cases hn
      | non => cases hn
      | bl _ => cases hn
      | int _ => cases hn
      | obj _ _ _ => cases hn
@[simp] def ixS : Sv → Sv → Option Sv
  | .fz (.tup ds), .fz (.int i) => (atI ds i).map .fz
  | .fz (.str x), .fz (.int i) => if x.length ≤ sizeLine then (atI x.cps.toList i).map fun c => .fz (.str ⟨#[c]⟩) else none
  | s, .fz (.int i) => (elemsL s).bind fun ds => (atI ds i).map .fz
  | _, _ => none
@[simp] def gIx : Bf := keep2 ixS
theorem atI_get {R : Hp} {ds : List Dt} {ws : List V} {i : Int} {d : Dt} (hr : RpDs G R ds ws) (h : atI ds i = some d) : ∃ v, atI ws i = some v ∧ RpD G R d v := by
  unfold atI at h ⊢
  rw [← hr.len]
  cases hq : ixN ds.length i with
  | none => rw [hq] at h; cases h
  | some j =>
    rw [hq] at h
    have h : ds[j]? = some d := h
    obtain ⟨x, hx⟩ := get_of (l := ws) (i := j) (by rw [← hr.len]; exact (List.getElem?_eq_some_iff.mp h).1)
    exact ⟨x, hx, hr.get h hx⟩
theorem srv_ix : Srv G (r2l (rIx G.K)) gIx := by
  refine srv2 fun Z R H s u x y ts vs env σ w Q c hg q => ?_
  have sub := c.wf
  have lists : ∀ i : Int, u = .fz (.int i) → ((elemsL s).bind fun ds => (atI ds i).map Sv.fz) = some w → rIx G.K x y H Q := fun i hu hg2 => by
    subst hu
    cases h1 : elemsL s with
    | none => rw [h1] at hg2; cases hg2
    | some ds =>
      rw [h1] at hg2
      have hg2 : (atI ds i).map Sv.fz = some w := hg2
      cases h2 : atI ds i with
      | none => rw [h2] at hg2; cases hg2
      | some d =>
        rw [h2] at hg2
        cases hg2
        have := c.top2
        cases this
        obtain ⟨a, ws, rfl, hr, hs, _⟩ := elemsL_kp c h1
        obtain ⟨v, hv, rv⟩ := atI_get hr h2
        exact .inl ⟨a, ws, i, v, rfl, rfl, hs, hv, q _ _ _ (c.push rv)⟩
  unfold ixS at hg
  split at hg
  · rename_i ds i
    cases h2 : atI ds i with
    | none => rw [h2] at hg; cases hg
    | some d =>
      rw [h2] at hg
      cases hg
      have := c.top2
      cases this
      obtain ⟨a, ws, rfl, ha, hr⟩ := c.top
      obtain ⟨v, hv, rv⟩ := atI_get hr h2
      exact .inr (.inl ⟨a, ws, i, v, rfl, rfl, sqT_mono sub ha, hv, q _ _ _ (c.push rv)⟩)
  · rename_i z i
    split at hg
    · rename_i hz
      cases h2 : atI z.cps.toList i with
      | none => rw [h2] at hg; cases hg
      | some k =>
        rw [h2] at hg
        cases hg
        have e1 := c.top
        have e2 := c.top2
        cases e1
        cases e2
        exact .inr (.inr ⟨z, i, k, rfl, rfl, hz, h2, q _ _ _ (c.push rfl)⟩)
    · cases hg
  · rename_i i _ _
    exact lists i rfl hg
  · cases hg
end
end Fw
set_option Elab.async false
set_option linter.all false
set_option maxRecDepth 100000
set_option maxHeartbeats 1000000
/-! sorted of data, with reverse=. -/
namespace Fw
open PySem PySem.Spec PyProof.Rows L2
open PySem.W (sortingHeap copyHeap sorting_copy_old EachIs AllAlike Sortable SortsAt dataLe alike alikeAll keyToks dataKind sortVals sortVals_data sortVals_length)

section
variable {prog : Program} {w : World} {A : Around} {E : Value → Shared → Prop} {s : Shared} {β : Type} {vs : List Value} {bs : List β} {enc : β → PyData} {R : Value → β → Prop}
/-- as Sortable, or there is one thing at most -/
def SortableX (ds : List PyData) : Prop := Sortable ds ∨ (ds.length ≤ 1 ∧ ∀ d ∈ ds, d ≠ .none)
theorem sortsAt {vs : List Value} {ds : List PyData} (e : EachIs (fun v d => ∃ as, Reads s.heap v d as) vs ds) (hal : AllAlike ds) (hk : SortableX ds) (hu : ∀ d, d ∈ ds → A.units + d.depth < cLine) : SortsAt prog w A s (dataKind s.heap ds) vs := by
  rcases hk with hk | ⟨h1, hn⟩
  · exact SortsAt.data e hal hk hu
  · refine ⟨fun v hv => ?_, general', fun E x y a b Q ha hb hq => ?_, fun h2 => absurd h2 (by rw [e.length]; omega)⟩
    · obtain ⟨d, hd, as, r⟩ := e.left v hv
      exact ⟨_, PySem.W.dataKind_some hal hd r⟩
    · obtain ⟨d, as, hd, ra, rfl⟩ := PySem.W.dataKind_inv ha
      obtain ⟨d', as', hd', rb, rfl⟩ := PySem.W.dataKind_inv hb
      show wpAny _ _ (oneLt' false x y) _ _ _
      exact PySem.W.oneLt_alike (fun z => nomatch z) ra rb (hal d hd d' hd') (hn d hd) (Nat.lt_of_le_of_lt (Nat.add_le_add_left (Nat.min_le_left _ _) _) (hu d hd)) hq
theorem sorted_x {l : Addr} {Q : Value → Shared → Prop} (hl : s.heap.IsList l vs.toArray) (e : EachIs R vs bs) (er : EachIs (fun v b => ∃ as, Reads s.heap v (enc b) as) vs bs) (hal : AllAlike (bs.map enc)) (hk : SortableX (bs.map enc)) (hL : bs.length ≤ sizeLine)
    (hu : ∀ b, b ∈ bs → A.units + 2 + (enc b).depth < cLine) (h : ∀ out, out.length = bs.length → EachIs R out (bs.mergeSort (dataLe false enc)) → Q (.ref (s.heap.objs.size + 1)) { s with heap := sortedAll s.heap vs (List.toArray out) }) :
    wpAny (model prog w) A (call (.builtin "sorted") [.ref l]) Q E s := by
  have er' : EachIs (fun v b => ∃ as, Reads (sortingHeap (copyHeap s.heap vs) (s.heap.objs.size + 1) vs) v (enc b) as) vs bs := er.mono fun _ _ ⟨as, r⟩ => ⟨as, PyProof.Rows.Reads.keeps (fun _ _ => sorting_copy_old) r⟩
  exact PySem.W.sorted_vals hl (sortsAt (s := { s with heap := sortingHeap (copyHeap s.heap vs) (s.heap.objs.size + 1) vs }) (PySem.W.each_map (R := fun v d => ∃ as, Reads (sortingHeap (copyHeap s.heap vs) (s.heap.objs.size + 1) vs) v d as) enc er') hal hk (PySem.W.bound_map hu)) (by rw [e.length]; exact hL)
    (h _ (by rw [sortVals_length false rfl]; exact e.length) (sortVals_data false e er' hal))
theorem sorted_rev_x {l : Addr} {b : Bool} {Q : Value → Shared → Prop} (hl : s.heap.IsList l vs.toArray) (e : EachIs R vs bs) (er : EachIs (fun v b => ∃ as, Reads s.heap v (enc b) as) vs bs) (hal : AllAlike (bs.map enc)) (hk : SortableX (bs.map enc)) (hL : bs.length ≤ sizeLine)
    (hu : ∀ b, b ∈ bs → A.units + 2 + (enc b).depth < cLine) (h : ∀ out, out.length = bs.length → EachIs R out (bs.mergeSort (dataLe b enc)) → Q (.ref (s.heap.objs.size + 1)) { s with heap := sortedAll s.heap vs (List.toArray out) }) :
    wpAny (model prog w) A (call (.builtin "sorted") [.ref l] [(Str.ofString "reverse", .bool b)]) Q E s := by
  have er' : EachIs (fun v b => ∃ as, Reads (sortingHeap (copyHeap s.heap vs) (s.heap.objs.size + 1) vs) v (enc b) as) vs bs := er.mono fun _ _ ⟨as, r⟩ => ⟨as, PyProof.Rows.Reads.keeps (fun _ _ => sorting_copy_old) r⟩
  exact PySem.W.sorted_rev_vals hl (sortsAt (s := { s with heap := sortingHeap (copyHeap s.heap vs) (s.heap.objs.size + 1) vs }) (PySem.W.each_map (R := fun v d => ∃ as, Reads (sortingHeap (copyHeap s.heap vs) (s.heap.objs.size + 1) vs) v d as) enc er') hal hk (PySem.W.bound_map hu)) (by rw [e.length]; exact hL)
    (h _ (by rw [sortVals_length b rfl]; exact e.length) (sortVals_data b e er' hal))
end
section
variable {X : Cx}
/-- what is sorted: values with their data -/
def srtV (rev : Bool) (bs : List (V × PyData)) : List V := (bs.mergeSort (dataLe rev Prod.snd)).map Prod.fst
def rSrt (K : PySem.W.Frag) (rev : Bool) : List V → Hp → VK → Prop := fun vs H Q => ∃ (a : Addr) (xs : List V) (ps : List PyData), vs = [V.ref a] ∧ SqL K H a xs ∧ DpAll K H xs ps ∧ AllAlike ps ∧ SortableX ps ∧ (∀ d ∈ ps, d.depth ≤ 50) ∧
  ∀ p, H p = none → Q (.ref p) (upd H p (.lst (srtV rev (xs.zip ps))))
theorem dpAll_len {K : PySem.W.Frag} {H : Hp} : ∀ {xs : List V} {ps : List PyData}, DpAll K H xs ps → xs.length = ps.length
  | _, _, .nil => rfl
  | _, _, .cons _ t => by rw [List.length_cons, List.length_cons, dpAll_len t]
theorem each_vals : ∀ {xs : List V} {us : List Value} {ps : List PyData}, Vals xs us → xs.length = ps.length → EachIs (fun v (b : V × PyData) => RelV b.1 v) us (xs.zip ps)
  | _, _, _, .nil, _ => .nil
  | _ :: _, _, [], .cons _ _, h => nomatch h
  | x :: xs, _, p :: ps, .cons r t, h => .cons r (each_vals t (by simpa using h))
theorem each_reads {pins : List (Addr × Obj)} {s : Shared} {σ : L2.St} {H : Hp} (I : Inv X pins σ H s) : ∀ {xs : List V} {us : List Value} {ps : List PyData}, Vals xs us → DpAll X.K H xs ps → EachIs (fun v (b : V × PyData) => ∃ as, Reads s.heap v b.2 as) us (xs.zip ps)
  | _, _, _, .nil, .nil => .nil
  | _, _, _, .cons r t, .cons d e => .cons (Dp.reads I _ _ _ d r) (each_reads I t e)
theorem vals_each : ∀ {bs : List (V × PyData)} {us : List Value}, EachIs (fun v (b : V × PyData) => RelV b.1 v) us bs → Vals (bs.map Prod.fst) us
  | _, _, .nil => .nil
  | _, _, .cons r t => .cons r (vals_each t)
theorem cr_srt (hu : X.A.units + 64 < cLine) : CallR X (.builtin "sorted") (rSrt X.K false) := by
  intro pins s σ H vs us Q I r h
  obtain ⟨a, xs, ps, rfl, hs, hd, hal, hk, hdp, q⟩ := h
  obtain ⟨its, rv, hl, hz⟩ := I.list hs
  rw [Vals.ref1 r]
  have hlen := dpAll_len hd
  have hsnd : (xs.zip ps).map Prod.snd = ps := List.map_snd_zip (Nat.le_of_eq hlen.symm)
  refine sorted_x (enc := Prod.snd) hl.isList (each_vals rv hlen) (each_reads I rv hd) (by rw [hsnd]; exact hal) (by rw [hsnd]; exact hk) (by rw [List.length_zip]; omega) (fun b hb => ?_) fun out h1 h2 => ?_
  · have := hdp b.2 (List.of_mem_zip hb).2
    omega
  · obtain ⟨ep, he'⟩ := PyProof.Rows.sortedAll_at s.heap its out.toArray
    refine ⟨.ref _, upd H (s.heap.objs.size + 1) (.lst (srtV false (xs.zip ps))), I.laid (t' := s.toks) (fun _ _ => PyProof.Rows.sortedAll_old) (Nat.le_succ _) ⟨?_, out, ep, vals_each h2, he'⟩, rfl, q _ (I.hok.fresh (Nat.le_succ _))⟩
    unfold srtV
    rw [List.length_map, List.length_mergeSort, List.length_zip]
    omega
theorem cr_srtR {b : Bool} (hu : X.A.units + 64 < cLine) : CallRK X (.builtin "sorted") [Str.ofString "reverse"] (fun vs zs H Q => zs = [.bl b] ∧ rSrt X.K b vs H Q) := by
  intro pins s σ H vs zs us ws Q I r rz h
  obtain ⟨rfl, a, xs, ps, rfl, hs, hd, hal, hk, hdp, q⟩ := h
  obtain ⟨its, rv, hl, hz⟩ := I.list hs
  rw [Vals.ref1 r]
  obtain ⟨w1, rfl, e1⟩ := vals1 rz
  obtain rfl : w1 = Value.bool b := e1
  have hlen := dpAll_len hd
  have hsnd : (xs.zip ps).map Prod.snd = ps := List.map_snd_zip (Nat.le_of_eq hlen.symm)
  refine sorted_rev_x (enc := Prod.snd) hl.isList (each_vals rv hlen) (each_reads I rv hd) (by rw [hsnd]; exact hal) (by rw [hsnd]; exact hk) (by rw [List.length_zip]; omega) (fun b hb => ?_) fun out h1 h2 => ?_
  · have := hdp b.2 (List.of_mem_zip hb).2
    omega
  · obtain ⟨ep, he'⟩ := PyProof.Rows.sortedAll_at s.heap its out.toArray
    refine ⟨.ref _, upd H (s.heap.objs.size + 1) (.lst (srtV b (xs.zip ps))), I.laid (t' := s.toks) (fun _ _ => PyProof.Rows.sortedAll_old) (Nat.le_succ _) ⟨?_, out, ep, vals_each h2, he'⟩, rfl, q _ (I.hok.fresh (Nat.le_succ _))⟩
    unfold srtV
    rw [List.length_map, List.length_mergeSort, List.length_zip]
    omega
end
section
variable {G : Gd}
def nonEmptyT : PyData → Bool
  | .tuple (_ :: _) => true
  | _ => false
def plainK : PyData → Bool
  | .none => false
  | .tuple _ => false
  | _ => true
def sortableB (ps : List PyData) : Bool := (ps.all nonEmptyT || ps.all plainK || (decide (ps.length ≤ 1) && ps.all fun d => match d with | .none => false | _ => true)) && (ps.all fun d => ps.all fun e => alike d e) && ps.all fun d => decide (d.depth ≤ 50)
theorem sortableB_ok {ps : List PyData} (h : sortableB ps = true) : AllAlike ps ∧ SortableX ps ∧ ∀ d ∈ ps, d.depth ≤ 50 := by
  unfold sortableB at h
  simp only [Bool.and_eq_true, Bool.or_eq_true, List.all_eq_true, decide_eq_true_eq] at h
  obtain ⟨⟨h1, h2⟩, h3⟩ := h
  refine ⟨fun d hd e he => h2 d hd e he, ?_, h3⟩
  rcases h1 with (h1 | h1) | ⟨h1, h4⟩
  · refine .inl (.inl fun d hd => ?_)
    have := h1 d hd
    unfold nonEmptyT at this
    split at this
    · exact ⟨_, _, rfl⟩
    · cases this
  · refine .inl (.inr fun d hd => ?_)
    have := h1 d hd
    unfold plainK at this
    split at this
    · cases this
    · cases this
    · rename_i n1 n2
      exact ⟨n1, fun xs => n2 xs⟩
  · refine .inr ⟨h1, fun d hd e => ?_⟩
    subst e
    exact absurd (h4 _ hd) Bool.false_ne_true
noncomputable def srtD (rev : Bool) (ds : List Dt) : List Dt := ds.mergeSort (dataLe rev Dt.py)
noncomputable def gSorted (rev : Bool) : Bf := keep1 fun s => match datOf s with
  | some (.lst ds) => if PyData.canLayAll0 (pys ds) && sortableB (pys ds) then some (.lst ((srtD rev ds).map .fz)) else none
  | _ => none
theorem pys_map : ∀ ds : List Dt, pys ds = ds.map Dt.py
  | [] => rfl
  | d :: ds => by rw [pys, List.map_cons, pys_map ds]
theorem datOf_lst {Z : Zn} {R H : Hp} {s : Sv} {v : V} {ds : List Dt} {ts : List Sv} {vs : List V} {env : Env} {σ : L2.St} (c : Cfg G Z R H (s :: ts) (v :: vs) env σ) (h : datOf s = some (.lst ds)) : elemsL s = some ds := by
  cases s with
  | ins _ _ _ => cases h
  | fz d => cases h; rfl
  | lst ss =>
    have h : (allFz ss).map Dt.lst = some (.lst ds) := h
    cases hq : allFz ss with
    | none => rw [hq] at h; cases h
    | some l => rw [hq] at h; cases h; exact hq
theorem rpDs_zip {R : Hp} : ∀ {ds : List Dt} {ws : List V}, RpDs G R ds ws → ∀ p ∈ ws.zip ds, RpD G R p.2 p.1
  | [], _, h, p, hp => by
    cases h
    exact nomatch hp
  | d :: ds, _, ⟨v, vr, e, h, r⟩, p, hp => by
    subst e
    rcases List.mem_cons.mp hp with rfl | hp
    · exact h
    · exact rpDs_zip r p hp
theorem rpDs_of {R : Hp} : ∀ {l : List (V × Dt)}, (∀ p ∈ l, RpD G R p.2 p.1) → RpDs G R (l.map Prod.snd) (l.map Prod.fst)
  | [], _ => rfl
  | p :: l, h => ⟨p.1, l.map Prod.fst, rfl, h p List.mem_cons_self, rpDs_of fun q hq => h q (List.mem_cons_of_mem _ hq)⟩
theorem srt_rp {R : Hp} {rev : Bool} {ds : List Dt} {ws : List V} (h : RpDs G R ds ws) : RpDs G R (srtD rev ds) (srtV rev (ws.zip (pys ds))) := by
  have hlen := h.len
  have z := rpDs_of (l := (ws.zip ds).mergeSort (dataLe rev fun p => p.2.py)) fun p hp => rpDs_zip h p ((List.mergeSort_perm _ _).mem_iff.mp hp)
  have e1 : ((ws.zip ds).mergeSort (dataLe rev fun p => p.2.py)).map Prod.snd = srtD rev ds := by
    rw [PySem.W.sort_maps (r := dataLe rev fun p : V × Dt => p.2.py) (s := dataLe rev Dt.py) Prod.snd fun a _ b _ => rfl, List.map_snd_zip (Nat.le_of_eq hlen)]
    rfl
  have e2 : ((ws.zip ds).mergeSort (dataLe rev fun p => p.2.py)).map Prod.fst = srtV rev (ws.zip (pys ds)) := by
    have e3 : ws.zip (pys ds) = (ws.zip ds).map fun p => (p.1, p.2.py) := by
      rw [pys_map, List.zip_map_right]
      rfl
    unfold srtV
    rw [e3, ← PySem.W.sort_maps (r := dataLe rev fun p : V × Dt => p.2.py) (s := dataLe rev Prod.snd) (fun p : V × Dt => (p.1, p.2.py)) fun a _ b _ => rfl, List.map_map]
    rfl
  rw [e1, e2] at z
  exact z
theorem sorted_core {rev : Bool} {Z : Zn} {R H : Hp} {s : Sv} {x : V} {ts : List Sv} {vs : List V} {env : Env} {σ : L2.St} {w : Sv} {Q : VK} (c : Cfg G Z R H (s :: ts) (x :: vs) env σ)
    (hg : (match datOf s with
      | some (.lst ds) => if PyData.canLayAll0 (pys ds) && sortableB (pys ds) then some (Sv.lst ((srtD rev ds).map .fz)) else none
      | _ => none) = some w) (q : ∀ v R' H', Cfg G Z R' H' (w :: s :: ts) (v :: x :: vs) env σ → Q v H') : rSrt G.K rev [x] H Q := by
  split at hg
  · rename_i ds hd
    split at hg
    · rename_i ho
      cases hg
      obtain ⟨o1, o2⟩ := Bool.and_eq_true_iff.mp ho
      obtain ⟨a1, a2, a3⟩ := sortableB_ok o2
      obtain ⟨a, ws, rfl, hr, hs, _⟩ := elemsL_kp c (datOf_lst c hd)
      refine ⟨a, ws, pys ds, rfl, hs, dps_of c.wf o1 hr, a1, a2, a3, fun p hp => q _ _ _ (c.newFz (srt_rp hr) hp)⟩
    · cases hg
  · cases hg
theorem srv_sorted : Srv G (rSrt G.K false) (gSorted false) := srv1 fun Z R H s x ts vs env σ w Q c hg q => sorted_core c hg q
end
end Fw
set_option Elab.async false
set_option linter.all false
set_option maxRecDepth 100000
set_option maxHeartbeats 3200000
/-! list(reversed(xs)), xs a list. -/
namespace Fw
open PySem PySem.Spec PyProof.Rows L2
/-- a list's object of no attributes -/
abbrev lob (xs : Array Value) (c : Nat := 0) : Obj := { cls := .type "list", dict := none, data := .seq xs c, slots := #[] }
/-- it walks xs, the items of the list at l, from behind; T is a new empty list beside them -/
structure RevBeside (h : Heap) (it l T : Addr) (xs : Array Value) (c : Nat) : Prop where
  at_ : h.IsRevIter it l ((xs.size : Int) - 1)
  src : h.IsList l xs
  new : h.get? T = some (lob #[] c)
  n1 : l ≠ it
  n2 : T ≠ it
  n3 : T ≠ l
/-- what has come of it: T holds the items from behind, all but T and the iterator is as it was -/
def RevDone (s u : Shared) (it T : Addr) (xs : Array Value) : Prop := ∃ acc c, u.heap.get? T = some (lob acc c) ∧ ItemsOf (fun i v => xs[xs.size - 1 - i]? = some v) acc xs.size ∧ Moved [T, it] (fun a b => b = a) s u
section
variable {P : Program} {w : World} {A : Around} {E : Value → Shared → Prop} {s : Shared} {R : Result → Shared → Prop} {it l T : Addr} {xs : Array Value} {c : Nat}
theorem hint_says {Q : Bool → Shared → Prop} (h : s.TypeIs (.ref it) "list_reverseiterator") (q : Q false s) : wpAny (model P w) A (Builtin.List.listLengthHint (.ref it)) Q E s := by
  unfold Builtin.List.listLengthHint
  refine wpAny_bind (wpAny_specialOf h RT.nolen_lri ?_)
  refine (wpAny_bind (wpAny_specialOf h RT.hint_lri ?_) : wpAny _ A (specialOf (Value.ref it) (Str.ofString "__length_hint__") >>= _) _ _ _)
  generalize e : ("list_reverseiterator.__length_hint__" : String) = name
  wp_delta
  have cut : splitId name = some ("list_reverseiterator", "__length_hint__") := by subst e; decide +kernel
  rw [cut]
  subst e
  exact wpAny_bind (wpAny_isInstance (b := true) h (by rw [isSubtype_type]; kernel_rfl) (wpAny_pure q))
theorem extend_rev (calm : A.in1.handled = none) (b : RevBeside s.heap it l T xs c) (hn : xs.size ≤ sizeLine) (fin : ∀ u, RevDone s u it T xs → R (.ok (.ret .none)) u) :
    wpAny (model P w) A.in1 (Builtin.List.listExtendWith (.ref T) (.ref it) .none)
      (fun f u => match f with | .done r => R (.ok r) u | .again k => k.quiet = true ∧ codeAny (model P w) A k R u) (fun e u => R (.error e) u) s := by
  have ty : s.TypeIs (.ref it) "list_reverseiterator" := b.at_.typeIs
  have other : Builtin.List.listSameRef (.ref T) (.ref it) = false := by simp [Builtin.List.listSameRef, b.n2]
  unfold Builtin.List.listExtendWith
  refine wpAny_bind (wpAny_typeOf ty ?_)
  rw [if_neg (by rw [other]; exact fun z => nomatch z)]
  refine wpAny_bind (wpAny_pyIter_revIter b.at_ (wpAny_bind (wpAny_holding (hint_says ty ?_))))
  rw [if_neg (by decide)]
  have walk := (Walks.listRev (prog := P) (w := w) (A := A.in1) calm it l b.n1 xs).toS
  have first : s.heap.IsRevIter it l ((xs.size : Int) - 1 - ((0 : Nat) : Int)) := by simpa using b.at_
  have off : T ∉ [it, l] := fun z => by
    rcases List.mem_cons.mp z with z | z
    · exact b.n2 z
    · exact b.n3 (List.mem_singleton.mp z)
  exact wpAny_pure ⟨plainId_quiet F.plain_extend_loop _, codeAny_extend_loopS walk hn T off _ xs.size 0 s #[] c rfl (Nat.zero_le _) ⟨Nat.zero_le _, first, b.src⟩ b.new (ItemsOf.nil _) fun u acc k mv hT its => fin u ⟨acc, k, hT, its, mv⟩⟩
theorem init_rev (calm : A.in1.handled = none) (b : RevBeside s.heap it l T xs 0) (hn : xs.size ≤ sizeLine) (fin : ∀ u, RevDone s u it T xs → R (.ok (.ret .none)) u) :
    wpAny (model P w) A.in1 (Builtin.«list.__init__» ⟨[.ref T, .ref it], []⟩)
      (fun f u => match f with | .done r => R (.ok r) u | .again k => k.quiet = true ∧ codeAny (model P w) A k R u) (fun e u => R (.error e) u) s := by
  refine (?_ : wpAny _ A.in1 (Builtin.List.listItems (.ref T) >>= fun old => Builtin.List.listUpdate (.ref T) (fun _ => #[]) >>= fun _ => letGo old.toList.reverse >>= fun _ => Builtin.List.listExtendWith (.ref T) (.ref it) .none) _ _ s)
  refine wpAny_bind ?_
  unfold Builtin.List.listItems
  refine wpAny_bind (wpAny_seqItems b.new rfl (wpAny_pure ?_))
  refine (wpAny_bind (wpAny_updateSeq b.new rfl ?_) : wpAny _ A.in1 (updateSeq T (fun _ => #[]) >>= fun _ => _) _ _ s)
  have was : ∀ a o, a ≠ T → s.heap.get? a = some o → (s.heap.update T (Obj.mapSeq (fun _ => (#[] : Array Value)))).get? a = some o := fun a o ha e => by
    rw [Heap.get?_update_other _ _ (Ne.symm ha)]
    exact e
  have now : (s.heap.update T (Obj.mapSeq (fun _ => (#[] : Array Value)))).get? T = some (lob #[]) := by
    have z := Heap.get?_update_self (Obj.mapSeq (fun _ => (#[] : Array Value))) b.new rfl
    exact z
  obtain ⟨lo, hlo, lr⟩ := b.src
  refine wpAny_bind (wpAny_letGo (extend_rev (s := { s with heap := s.heap.update T (Obj.mapSeq (fun _ => (#[] : Array Value))) }) calm ⟨b.at_.at fun o e => was it o (Ne.symm b.n2) e, ⟨lo, was l lo (Ne.symm b.n3) hlo, lr⟩, now, b.n1, b.n2, b.n3⟩ hn fun u d => fin u ?_))
  obtain ⟨acc, k, h1, h2, mv⟩ := d
  exact ⟨acc, k, h1, h2, ⟨fun a o ha e => mv.heap a o ha (was a o (fun z => ha (by rw [z]; exact List.mem_cons_self (l := [it]))) e), mv.gens, mv.drawn, mv.os, mv.toks⟩⟩
theorem list_of_rev {Q : Value → Shared → Prop} (calm : A.handled = none) (hi : s.heap.IsRevIter it l ((xs.size : Int) - 1)) (hl : s.heap.IsList l xs) (ne : l ≠ it) (hn : xs.size ≤ sizeLine)
    (fin : ∀ (h' : Heap) (tk : Nat) (acc : Array Value) (k : Nat), (∀ a o, a ≠ it → s.heap.get? a = some o → h'.get? a = some o) → ItemsOf (fun i v => xs[xs.size - 1 - i]? = some v) acc xs.size → h'.get? s.heap.objs.size = some (lob acc k) → Q (.ref s.heap.objs.size) { s with heap := h', toks := tk }) :
    wpAny (model P w) A (call (.type "list") [.ref it]) Q E s := by
  have below : ∀ {a : Addr} {o : Obj}, s.heap.get? a = some o → s.heap.objs.size ≠ a := fun e => Nat.ne_of_gt (Heap.lt_size e)
  have p2 : s.heap.objs.size ≠ it := let ⟨_, e, _⟩ := hi; below e
  have p3 : s.heap.objs.size ≠ l := let ⟨_, e, _⟩ := hl; below e
  have fresh : (s.heap.push (lob #[])).get? s.heap.objs.size = some (lob #[]) := Heap.get?_push_size _ rfl
  refine callType_codes (Q₁ := fun o u => o = .ref s.heap.objs.size ∧ u = { s with heap := s.heap.push (lob #[]) }) F.called_list (F.typeCall_list_1 _) F.entry_list_init (code_list_new _ ⟨rfl, rfl⟩) fun o u hu => ?_
  obtain ⟨e1, e2⟩ := hu
  subst e1 e2
  refine ⟨⟨_, fresh, rfl⟩, F.args_list_init_2 _ _, init_rev (A := A.in1) (s := { s with heap := s.heap.push (lob #[]) }) (xs := xs) (l := l) calm ⟨hi.at fun o e => Heap.get?_push_of_some _ e, hl.push _, fresh, ne, p2, p3⟩ hn fun u d => ⟨rfl, ?_⟩⟩
  obtain ⟨acc, k, h1, h2, mv⟩ := d
  rw [Moved.eq_with mv]
  refine fin u.heap u.toks acc k (fun a o ha e => mv.heap a o (fun z => ?_) (Heap.get?_push_of_some _ e)) h2 h1
  rcases List.mem_cons.mp z with z | z
  · exact below e z.symm
  · exact ha (List.mem_singleton.mp z)
end
def tLstRev (K : PySem.W.Frag) (te : TE) : TE := fun σ H Q => te σ H fun v H1 => ∃ (a : Addr) (xs : List V), v = .ref a ∧ SqL K H1 a xs ∧ ∀ q, H1 q = none → Q (.ref q) (upd H1 q (.lst xs.reverse))
section
variable {X : Cx}
theorem pe_lstRev {e : Expr} {te : TE} {p p2 pos pos2 : Pos} (hc : X.calm = true) (hg : Gl X "list") (hm : X.mg "list" = none) (hg2 : Gl X "reversed") (hm2 : X.mg "reversed" = none) (he : PE X e te)
    (one : starEach [e] X.env = [(false, eval e X.env)] := by rfl) (two : starEach [.Call (.Name "reversed" p2) [e] [] pos2] X.env = [(false, eval (.Call (.Name "reversed" p2) [e] [] pos2) X.env)] := by rfl) :
    PE X (.Call (.Name "list" p) [.Call (.Name "reversed" p2) [e] [] pos2] [] pos) (tLstRev X.K te) := by
  constructor
  intro pins s σ H Q I h
  refine Call_ (ld_blt I hg hm boot_list (PyProof.Rows.callWith_type1 (args_cons (Call_ (ld_blt I hg2 hm2 PyProof.Rows.boot_reversed (PyProof.Rows.callWith_type1 (args_cons (thn (he.run pins s σ H _ I h) fun u s1 ⟨v, H1, I1, r1, a, ys, ev, hs, q⟩ => args_nil ?_) one) one rfl))) two) two rfl))
  subst ev
  obtain rfl : u = Value.ref a := r1
  obtain ⟨its, rv, pl, len⟩ := I1.list hs
  have src := pl.isList
  have small : its.toArray.size ≤ sizeLine := by
    rw [List.size_toArray, ← rv.length]
    exact len
  have ai : a ≠ s1.heap.objs.size := let ⟨_, z, _⟩ := src; Nat.ne_of_lt (Heap.lt_size z)
  refine call_reversed_list src (args_nil (list_of_rev (s := { s1 with heap := s1.heap.push (revObj a ((its.toArray.size : Int) - 1)) }) (I1.ok.hd hc) ⟨_, Heap.get?_push_size _ rfl, rfl, rfl⟩ (src.push _) ai small fun h' tk acc k old items new => ?_))
  have up : s1.heap.objs.size ≤ (s1.heap.push (revObj a ((its.toArray.size : Int) - 1))).objs.size := by
    rw [Heap.size_push]
    exact Nat.le_succ _
  have J := I1.turnedNew (t' := tk) (ch := [s1.heap.objs.size]) (ob := .lst ys.reverse) (fun b o hb z => old b o (fun y => hb (by simp [y])) (Heap.get?_push_of_some _ z))
    (fun b hb => by rw [List.mem_singleton.mp hb]; exact I1.fpOk (H' := H1) (Nat.le_refl _) (I1.hok.fresh (Nat.le_refl _))) up ⟨by rw [List.length_reverse]; exact len, acc.toList, k, RT.vals_rev rv items, by rw [Array.toArray_toList]; exact new⟩
  exact ⟨.ref _, _, J, rfl, q _ (I1.hok.fresh up)⟩
end
end Fw
set_option Elab.async false
set_option linter.all false
set_option maxRecDepth 100000
set_option maxHeartbeats 3200000
/-! set(xs), xs a list, whatever its items are: D i h says what the set at S is when i items are in. -/
namespace Fw
open PySem PySem.Spec PyProof.Rows L2
section
variable {P : Program} {w : World} {A : Around} {E : Value → Shared → Prop} {s : Shared}
/-- the object that set() begins as; a state with one more -/
abbrev set0 (w : World) : Obj := { cls := .type "set", dict := none, data := .set #[] 0 (.fresh 0 0 (!w.params.followText "set-order")) }
abbrev plusSet (w : World) (s : Shared) : Shared := { s with heap := s.heap.push (set0 w) }
/-- how one item goes in: what D is behind it -/
def Fills (P : Program) (w : World) (B : Around) (D : Nat → Heap → Prop) (S : Addr) (Pv : Nat → Value → Prop) (n : Nat) : Prop :=
  ∀ (i : Nat) (v : Value) (s : Shared) (Q : Bool → Shared → Prop) (E : Value → Shared → Prop), i < n → Pv i v → D i s.heap → (∀ (b : Bool) (h' : Heap) (k : Nat), Heap.SameBut S s.heap h' → D (i + 1) h' → Q b { s with heap := h', toks := s.toks + k }) → wpAny (model P w) B (setAdd S v) Q E s
/-- D looks at the set, and at what old holds, alone -/
def Stays (D : Nat → Heap → Prop) (S : Addr) (old : Addr → Prop) : Prop := ∀ (i : Nat) (h h' : Heap), (∀ b o, b = S ∨ old b → h.get? b = some o → h'.get? b = some o) → D i h → D i h'
theorem fill_loop {I S : Addr} {fp wr : List Addr} {Gg : Array GenState → Array GenState → Prop} {n : Nat} {Pv : Nat → Value → Prop} {St : Nat → Shared → Prop} {D : Nat → Heap → Prop} {old : Addr → Prop} {R : Result → Shared → Prop}
    (walk : WalksS P w A.in1 I fp wr Gg n Pv St) (off : S ∉ fp) (fills : Fills P w A.in1 D S Pv n) (stays : Stays D S old) (offOld : ∀ b, old b → b ∉ wr)
    (fin : ∀ s0 s', Moved (S :: wr) Gg s0 s' → D n s'.heap → s0 = s → R (.ok (.ret .none)) s') : ∀ (left i : Nat) (s1 : Shared), i + left = n → St i s1 → D i s1.heap → Moved (S :: wr) Gg s s1 →
      codeAny (model P w) A (.builtin "set.update.loop" ⟨[.ref S, .ref I], []⟩) R s1 := by
  have offW : S ∉ wr := fun z => off (walk.sub _ z)
  have wide : ∀ b ∈ wr, b ∈ S :: wr := fun b z => List.mem_cons_of_mem _ z
  have over : ∀ {i : Nat} {u u' : Shared}, Moved wr Gg u u' → D i u.heap → D i u'.heap := fun {i u u'} mv d => stays i _ _ (fun b o hb e => mv.heap b o (by
    rcases hb with rfl | hb
    · exact offW
    · exact offOld b hb) e) d
  intro left
  induction left with
  | zero =>
    intro i s1 hi st d mv
    obtain rfl : i = n := by omega
    refine codeAny_builtin F.entry_set_update_loop ?_
    rw [Around.under_plainId F.plain_set_update_loop _]
    refine (wpAny_bind (walk.done s1 _ _ st fun s2 m2 => ?_) : wpAny _ A.in1 (pyNext (.ref I) >>= _) _ _ s1)
    show wpAny _ A.in1 (ret Value.none) _ _ s2
    exact wpAny_pure (fin s s2 (Moved.trans walk.gtrans mv (m2.mono wide)) (over m2 d) rfl)
  | succ left ih =>
    intro i s1 hi st d mv
    have lt : i < n := by omega
    refine codeAny_builtin F.entry_set_update_loop ?_
    rw [Around.under_plainId F.plain_set_update_loop _]
    refine (wpAny_bind (walk.item i s1 _ _ lt st fun v s2 hv st2 m2 => ?_) : wpAny _ A.in1 (pyNext (.ref I) >>= _) _ _ s1)
    refine (wpAny_bind (wpAny_holding (fills i v s2 _ _ lt hv (over m2 d) fun b h' k same d' => ?_)) : wpAny _ A.in1 (holding [v] (setAdd S v) >>= _) _ _ s2)
    have same' : ∀ b o, b ≠ S → s2.heap.get? b = some o → h'.get? b = some o := fun b o hb e => (same.2 b hb).trans e
    refine wpAny_pure ⟨plainId_quiet F.plain_set_update_loop _, ih (i + 1) { s2 with heap := h', toks := s2.toks + k } (by omega) (walk.frame _ s2 _ _ st2 (Nat.le_add_right _ _) fun b hb o e => same' b o (fun z => off (z ▸ hb)) e) d' ?_⟩
    exact Moved.trans walk.gtrans (Moved.trans walk.gtrans mv (m2.mono wide)) ((Moved.refl walk.grefl).then_heap (Nat.le_add_right _ _) fun b o hb e => same' b o (fun z => hb (z ▸ List.mem_cons_self)) e)
theorem fresh_set : (s.heap.push (set0 w)).get? s.heap.objs.size = some (set0 w) := Heap.get?_push_size _ rfl
/-- __init__ itself -/
theorem init_list {B : Around} {l : Addr} {items : Array Value} {D : Nat → Heap → Prop} (calm : B.handled = none) (hl : s.heap.IsList l items) (d0 : ∀ h' : Heap, (∀ b o, (s.heap.push (set0 w)).get? b = some o → h'.get? b = some o) → D 0 h')
    (fills : ∀ B : Around, Fills P w B D s.heap.objs.size (fun i v => items[i]? = some v) items.size) (stays : Stays D s.heap.objs.size fun b => b < s.heap.objs.size ∧ b ≠ l) :
    wpAny (model P w) B (Builtin.«set.__init__» ⟨[.ref s.heap.objs.size, .ref l], []⟩)
      (fun f u => match f with | .done r => wants (fun r u => r = .none ∧ ∃ h' tk, u = { s with heap := h', toks := tk } ∧ D items.size h' ∧ ∀ b o, s.heap.get? b = some o → h'.get? b = some o) E (.ok r) u | .again c => c.quiet = true ∧ codeAny (model P w) A c (wants (fun r u => r = .none ∧ ∃ h' tk, u = { s with heap := h', toks := tk } ∧ D items.size h' ∧ ∀ b o, s.heap.get? b = some o → h'.get? b = some o) E) u)
      (fun e u => wants (fun r u => r = .none ∧ ∃ h' tk, u = { s with heap := h', toks := tk } ∧ D items.size h' ∧ ∀ b o, s.heap.get? b = some o → h'.get? b = some o) E (.error e) u) (plusSet w s) := by
  obtain ⟨lo, loH, loC, ln, loD⟩ := hl
  obtain ⟨cls, dct, dat, slt⟩ := lo
  simp only at loC loD
  subst loC loD
  have lS : l < s.heap.objs.size := Heap.lt_size loH
  have atl : (s.heap.push (set0 w)).IsList l items := ⟨_, Heap.get?_push_of_some _ loH, rfl, ln, rfl⟩
  have kind : (plusSet w s).heap.get? l = some { cls := .type "list", dict := dct, data := .seq items ln, slots := slt } := Heap.get?_push_of_some _ loH
  have n1 := F.sub_list_set
  have n2 := F.sub_list_frozenset
  have n3 : (Value.type "list" == Value.type "dict") = false := by decide
  unfold Builtin.«set.__init__» noKeywords Builtin.Frozenset.updateFrom
  generalize hp : pyIter = p
  wp_walk
  subst hp
  have size1 : (s.heap.push (set0 w)).objs.size = s.heap.objs.size + 1 := Heap.size_push ..
  refine wpAny_pyIter_list atl (wpAny_bind (wpAny_runValue ?_))
  have ne : l ≠ (s.heap.push (set0 w)).objs.size := by rw [size1]; exact Nat.ne_of_lt (Nat.lt_succ_of_lt lS)
  have walk := (Walks.list (prog := P) (w := w) (A := B.in1) (by exact calm) _ l ne items).toS
  refine fill_loop (old := fun b => b < s.heap.objs.size ∧ b ≠ l) walk (fun z => ?_) (fills _) stays (fun b hb z => ?_) (fun s0 s1 mv d e0 => ?_) items.size 0 _ (Nat.zero_add _) ⟨⟨_, Heap.get?_push_size _ rfl, rfl, rfl⟩, atl.push _⟩ (d0 _ fun b o e => Heap.get?_push_of_some _ e) (Moved.refl walk.grefl)
  · rcases List.mem_cons.mp z with z | z
    · rw [size1] at z; exact absurd z (Nat.ne_of_lt (Nat.lt_succ_self _))
    · exact Nat.lt_irrefl _ ((List.mem_singleton.mp z) ▸ lS)
  · rw [List.mem_singleton.mp z, size1] at hb
    exact absurd hb.1 (Nat.not_lt.mpr (Nat.le_succ _))
  · subst e0
    obtain ⟨h', g', d', tk', os'⟩ := s1
    obtain rfl : g' = s.gens := mv.gens
    obtain rfl : d' = s.drawn := mv.drawn
    obtain rfl : os' = s.os := mv.os
    refine wpAny_pure (wpAny_pure ⟨rfl, h', tk', rfl, d, fun b o e => ?_⟩)
    have small := Heap.lt_size e
    refine mv.heap b o (fun z => ?_) (Heap.get?_push_of_some _ (Heap.get?_push_of_some _ e))
    rcases List.mem_cons.mp z with z | z
    · exact absurd (z ▸ small) (Nat.lt_irrefl _)
    · rw [List.mem_singleton.mp z, size1] at small
      exact absurd small (Nat.not_lt.mpr (Nat.le_succ _))
/-- what the whole call asks: what a filled set is good for -/
theorem set_list {l : Addr} {items : Array Value} {D : Nat → Heap → Prop} {Q : Value → Shared → Prop} (calm : A.handled = none) (hl : s.heap.IsList l items) (d0 : ∀ h' : Heap, (∀ b o, (s.heap.push (set0 w)).get? b = some o → h'.get? b = some o) → D 0 h')
    (fills : ∀ B : Around, Fills P w B D s.heap.objs.size (fun i v => items[i]? = some v) items.size) (stays : Stays D s.heap.objs.size fun b => b < s.heap.objs.size ∧ b ≠ l)
    (fin : ∀ (h' : Heap) (tk : Nat), D items.size h' → (∀ b o, s.heap.get? b = some o → h'.get? b = some o) → Q (.ref s.heap.objs.size) { s with heap := h', toks := tk }) :
    wpAny (model P w) A (call (.type "set") [.ref l]) Q E s := by
  have facts := F.called_set
  obtain ⟨c, tl, mro⟩ := facts.mro
  obtain ⟨lo, loH, loC, ln, loD⟩ := hl
  obtain ⟨cls, dct, dat, slt⟩ := lo
  simp only at loC loD
  subst loC loD
  have lS : l < s.heap.objs.size := Heap.lt_size loH
  have sorted0 : Shared.TypeIs (plusSet w s) (.ref s.heap.objs.size) "set" := ⟨_, fresh_set, rfl⟩
  have made := facts.made
  have sub := facts.sub
  have noT := facts.notType
  have can := facts.canCreate
  have look := facts.init.lookup
  have bind1 := facts.init.bind (.ref s.heap.objs.size)
  have chk := F.typeCall_set_1 (.ref l)
  refine wpAny_call (codeAny_of_tree (wpAny_pure ⟨Code.quiet_builtin _ (by decide +kernel), codeAny_builtin F.entry_type_call ?_⟩ : wpAny _ _ (callAny (.type "set") _) _ _ _))
  rw [Around.under_plain (weight_type_call_type "set" [.ref l] []) rfl]
  repeat (any_goals (first | assumption | wp_step))
  refine codeAny_mono (code_set_led1 (.ref l) (E := E) (Q₁ := fun o u => o = .ref s.heap.objs.size ∧ u = plusSet w s) ⟨rfl, rfl⟩) fun out u hu => ?_
  match out, hu with
  | .ok (.ret _), ⟨e1, e2⟩ =>
    subst e1 e2
    have h0 := fresh_set (w := w) (s := s)
    repeat (any_goals (first | assumption | wp_step))
    refine codeAny_mono (codeAny_call_builtin (R := wants (fun r u => r = .none ∧ ∃ h' tk, u = { s with heap := h', toks := tk } ∧ D items.size h' ∧ ∀ b o, s.heap.get? b = some o → h'.get? b = some o) E) facts.init.plain F.entry_set_init (check_set_init_1 sorted0 (init_list (A := A.in1) (by exact calm) ⟨_, loH, rfl, ln, rfl⟩ d0 fills stays))) fun out2 u2 hu2 => ?_
    match out2, hu2 with
    | .error _, hu2 => exact hu2
    | .ok (.ret _), ⟨e1, h', tk, e2, d, old⟩ =>
      subst e1 e2
      repeat (any_goals (first | assumption | wp_step))
      exact fin h' tk d old
  | .error _, hu => exact hu
/-- a set of ints -/
theorem call_set_R {l : Addr} {items : Array Value} {ns : List Int} {Q : Value → Shared → Prop} (calm : A.handled = none) (hl : s.heap.IsList l items) (hi : IntsAre items.toList ns) (hb : items.size + 1 < scanBound)
    (h : ∀ (h' : Heap) (tk : Nat), SetR w h' s.heap.objs.size (fun k' => (firstMet (fun i => ns.getD i 0) items.size).any (· == k')) (firstMet (fun i => ns.getD i 0) items.size).length → (∀ b o, s.heap.get? b = some o → h'.get? b = some o) → Q (.ref s.heap.objs.size) { s with heap := h', toks := tk }) :
    wpAny (model P w) A (call (.type "set") [.ref l]) Q E s := by
  refine set_list (D := fun i h => SetR w h s.heap.objs.size (fun k' => (firstMet (fun i => ns.getD i 0) i).any (· == k')) (firstMet (fun i => ns.getD i 0) i).length) calm hl (fun h' old => ?_) (fun B i v u Q' E' lt hv d k => ?_) (fun i h1 h2 keep d => d.at fun o e => keep _ o (.inl rfl) e) h
  · have e : SetR w (s.heap.push (set0 w)) s.heap.objs.size (fun _ => false) 0 := setR_fresh w
    exact e.at fun o q => old _ o q
  · obtain ⟨t, rfl⟩ := IntsAre.int_at hi i v (by rw [Array.getElem?_toList]; exact hv)
    unfold setAdd
    refine wpAny_holding (wpAny_bind ((intKind P w).pyHash (intKind_is P w (ns.getD i 0) t) (setR_add_hashed (P := P) (s := { u with toks := u.toks + 1 }) d (by have := firstMet_length_le (fun i => ns.getD i 0) i; omega) fun h' same d' => k _ h' 1 same ?_)))
    have e1 : (fun k' => (firstMet (fun i => ns.getD i 0) (i + 1)).any (· == k')) = (fun j => (firstMet (fun i => ns.getD i 0) i).any (· == j) || decide (j = ns.getD i 0)) := funext fun k' => by rw [firstMet_succ, step_any]
    have e2 : (firstMet (fun i => ns.getD i 0) (i + 1)).length = if ((firstMet (fun i => ns.getD i 0) i).any (· == ns.getD i 0)) = true then (firstMet (fun i => ns.getD i 0) i).length else (firstMet (fun i => ns.getD i 0) i).length + 1 := by rw [firstMet_succ, step_length]
    show SetR w h' _ _ _
    rw [e1, e2]
    exact d'
end
end Fw
set_option Elab.async false
set_option linter.all false
set_option maxRecDepth 100000
set_option maxHeartbeats 1000000
/-! sum, all, any, abs, int, list, tuple, lists' methods, sorted(set(..)), isinstance, slices, op=. -/
namespace Fw
open PySem PySem.Spec PyProof.Rows L2

@[simp] def intsOf : List Dt → Option (List Int)
  | [] => some []
  | .int i :: ds => (intsOf ds).map fun r => i :: r
  | _ :: _ => none
@[simp] def blsOf : List Dt → Option (List Bool)
  | [] => some []
  | .bl b :: ds => (blsOf ds).map fun r => b :: r
  | _ :: _ => none
section
variable {G : Gd}
theorem intsOf_rp {R : Hp} : ∀ {ds : List Dt} {ws : List V} {ns : List Int}, intsOf ds = some ns → RpDs G R ds ws → ws = ns.map V.int
  | [], _, _, h, r => by cases h; exact r
  | .int i :: ds, _, _, h, ⟨v, vr, e, r1, r2⟩ => by
    simp only [intsOf] at h
    cases q : intsOf ds with
    | none => rw [q] at h; cases h
    | some l =>
      rw [q] at h
      cases h
      have e1 : v = .int i := r1
      subst e e1
      rw [intsOf_rp q r2, List.map_cons]
  | .non :: _, _, _, h, _ => nomatch h
  | .bl _ :: _, _, _, h, _ => nomatch h
  | .str _ :: _, _, _, h, _ => nomatch h
  | .tup _ :: _, _, _, h, _ => nomatch h
  | .lst _ :: _, _, _, h, _ => nomatch h
  | .obj _ _ _ :: _, _, _, h, _ => nomatch h
theorem blsOf_rp {R : Hp} : ∀ {ds : List Dt} {ws : List V} {ns : List Bool}, blsOf ds = some ns → RpDs G R ds ws → ws = ns.map V.bl
  | [], _, _, h, r => by cases h; exact r
  | .bl i :: ds, _, _, h, ⟨v, vr, e, r1, r2⟩ => by
    simp only [blsOf] at h
    cases q : blsOf ds with
    | none => rw [q] at h; cases h
    | some l =>
      rw [q] at h
      cases h
      have e1 : v = .bl i := r1
      subst e e1
      rw [blsOf_rp q r2, List.map_cons]
  | .non :: _, _, _, h, _ => nomatch h
  | .int _ :: _, _, _, h, _ => nomatch h
  | .str _ :: _, _, _, h, _ => nomatch h
  | .tup _ :: _, _, _, h, _ => nomatch h
  | .lst _ :: _, _, _, h, _ => nomatch h
  | .obj _ _ _ :: _, _, _, h, _ => nomatch h
@[simp] def intsS (s : Sv) : Option (List Int) := (elemsL s).bind intsOf
@[simp] def blsS (s : Sv) : Option (List Bool) := (elemsL s).bind blsOf
theorem intsS_ok {Z : Zn} {R H : Hp} {s : Sv} {x : V} {ts : List Sv} {vs : List V} {env : Env} {σ : L2.St} {ns : List Int} (c : Cfg G Z R H (s :: ts) (x :: vs) env σ) (h : intsS s = some ns) : ∃ a, x = .ref a ∧ SqL G.K H a (ns.map V.int) := by
  unfold intsS at h
  cases q : elemsL s with
  | none => rw [q] at h; cases h
  | some ds =>
    rw [q] at h
    obtain ⟨a, ws, rfl, hr, hs, _⟩ := elemsL_kp c q
    rw [intsOf_rp h hr] at hs
    exact ⟨a, rfl, hs⟩
theorem blsS_ok {Z : Zn} {R H : Hp} {s : Sv} {x : V} {ts : List Sv} {vs : List V} {env : Env} {σ : L2.St} {ns : List Bool} (c : Cfg G Z R H (s :: ts) (x :: vs) env σ) (h : blsS s = some ns) : ∃ a, x = .ref a ∧ SqL G.K H a (ns.map V.bl) := by
  unfold blsS at h
  cases q : elemsL s with
  | none => rw [q] at h; cases h
  | some ds =>
    rw [q] at h
    obtain ⟨a, ws, rfl, hr, hs, _⟩ := elemsL_kp c q
    rw [blsOf_rp h hr] at hs
    exact ⟨a, rfl, hs⟩
theorem keep1_some {α : Type} {o : Option α} {f : α → Sv} {w : Sv} (h : o.map f = some w) : ∃ a, o = some a ∧ f a = w := by
  cases o with
  | none => cases h
  | some a => cases h; exact ⟨a, rfl, rfl⟩
@[simp] def gSum : Bf := keep1 fun s => (intsS s).map fun ns => .fz (.int ns.sum)
@[simp] def gAll : Bf := keep1 fun s => (blsS s).map fun ns => .fz (.bl (ns.all id))
@[simp] def gAny : Bf := keep1 fun s => (blsS s).map fun ns => .fz (.bl (ns.any id))
theorem srv_sum : Srv G (rSum G.K) gSum := srv1 fun Z R H s x ts vs env σ w Q c hg q => by
  obtain ⟨ns, e, rfl⟩ := keep1_some hg
  obtain ⟨a, rfl, hs⟩ := intsS_ok c e
  exact ⟨a, ns, rfl, hs, q _ _ _ (c.push rfl)⟩
theorem srv_all : Srv G (rAll G.K) gAll := srv1 fun Z R H s x ts vs env σ w Q c hg q => by
  obtain ⟨ns, e, rfl⟩ := keep1_some hg
  obtain ⟨a, rfl, hs⟩ := blsS_ok c e
  exact ⟨a, ns, rfl, hs, q _ _ _ (c.push rfl)⟩
theorem srv_any : Srv G (rAny G.K) gAny := srv1 fun Z R H s x ts vs env σ w Q c hg q => by
  obtain ⟨ns, e, rfl⟩ := keep1_some hg
  obtain ⟨a, rfl, hs⟩ := blsS_ok c e
  exact ⟨a, ns, rfl, hs, q _ _ _ (c.push rfl)⟩
def maxI : List Int → Int
  | [] => 0
  | [a] => a
  | a :: r => max a (maxI r)
def minI : List Int → Int
  | [] => 0
  | [a] => a
  | a :: r => min a (minI r)
theorem maxI_ok : ∀ {ns : List Int}, ns ≠ [] → maxI ns ∈ ns ∧ ∀ y ∈ ns, y ≤ maxI ns
  | [], h => absurd rfl h
  | [a], _ => ⟨List.mem_cons_self, fun y hy => by rw [List.mem_singleton.mp hy]; exact Int.le_refl _⟩
  | a :: b :: r, _ => by
    obtain ⟨h1, h2⟩ := maxI_ok (ns := b :: r) (by simp)
    show max a (maxI (b :: r)) ∈ _ ∧ _
    refine ⟨?_, fun y hy => ?_⟩
    · rcases Int.le_total a (maxI (b :: r)) with h | h
      · rw [Int.max_eq_right h]; exact List.mem_cons_of_mem _ h1
      · rw [Int.max_eq_left h]; exact List.mem_cons_self
    · show y ≤ max a (maxI (b :: r))
      rcases List.mem_cons.mp hy with rfl | hy
      · exact Int.le_max_left _ _
      · exact Int.le_trans (h2 y hy) (Int.le_max_right _ _)
theorem minI_ok : ∀ {ns : List Int}, ns ≠ [] → minI ns ∈ ns ∧ ∀ y ∈ ns, minI ns ≤ y
  | [], h => absurd rfl h
  | [a], _ => ⟨List.mem_cons_self, fun y hy => by rw [List.mem_singleton.mp hy]; exact Int.le_refl _⟩
  | a :: b :: r, _ => by
    obtain ⟨h1, h2⟩ := minI_ok (ns := b :: r) (by simp)
    show min a (minI (b :: r)) ∈ _ ∧ _
    refine ⟨?_, fun y hy => ?_⟩
    · rcases Int.le_total a (minI (b :: r)) with h | h
      · rw [Int.min_eq_left h]; exact List.mem_cons_self
      · rw [Int.min_eq_right h]; exact List.mem_cons_of_mem _ h1
    · show min a (minI (b :: r)) ≤ y
      rcases List.mem_cons.mp hy with rfl | hy
      · exact Int.min_le_left _ _
      · exact Int.le_trans (Int.min_le_right _ _) (h2 y hy)
@[simp] def gMax : Bf := keep1 fun s => (intsS s).bind fun ns => if ns.isEmpty then none else some (.fz (.int (maxI ns)))
@[simp] def gMin : Bf := keep1 fun s => (intsS s).bind fun ns => if ns.isEmpty then none else some (.fz (.int (minI ns)))
theorem srv_max : Srv G (rMax G.K) gMax := srv1 fun Z R H s x ts vs env σ w Q c hg q => by
  cases e : intsS s with
  | none => rw [e] at hg; cases hg
  | some ns =>
    rw [e] at hg
    have hg : (if ns.isEmpty = true then none else some (Sv.fz (.int (maxI ns)))) = some w := hg
    split at hg
    · cases hg
    · rename_i hne
      cases hg
      obtain ⟨a, rfl, hs⟩ := intsS_ok c e
      have hn : ns ≠ [] := fun z => hne (by rw [z]; rfl)
      obtain ⟨h1, h2⟩ := maxI_ok hn
      refine ⟨a, ns, rfl, hs, List.length_pos_iff.mpr hn, fun m hm1 hm2 => ?_⟩
      have : m = maxI ns := Int.le_antisymm (h2 m hm1) (hm2 _ h1)
      subst this
      exact q _ _ _ (c.push rfl)
theorem srv_min : Srv G (rMin G.K) gMin := srv1 fun Z R H s x ts vs env σ w Q c hg q => by
  cases e : intsS s with
  | none => rw [e] at hg; cases hg
  | some ns =>
    rw [e] at hg
    have hg : (if ns.isEmpty = true then none else some (Sv.fz (.int (minI ns)))) = some w := hg
    split at hg
    · cases hg
    · rename_i hne
      cases hg
      obtain ⟨a, rfl, hs⟩ := intsS_ok c e
      have hn : ns ≠ [] := fun z => hne (by rw [z]; rfl)
      obtain ⟨h1, h2⟩ := minI_ok hn
      refine ⟨a, ns, rfl, hs, List.length_pos_iff.mpr hn, fun m hm1 hm2 => ?_⟩
      have : m = minI ns := Int.le_antisymm (hm2 _ h1) (h2 m hm1)
      subst this
      exact q _ _ _ (c.push rfl)
@[simp] def gMax2 : Bf := keep2 (i2 pT fun i j => .int (if j > i then j else i))
@[simp] def gMin2 : Bf := keep2 (i2 pT fun i j => .int (if j < i then j else i))
theorem srv_of_r2 {r : List V → Hp → VK → Prop} {g : Bf} (h : Srv G (r2l fun x y H Q => r [x, y] H Q) g) : Srv G r g := fun Z R H ss ws ts vs env σ s ss' Q hl c hg hl2 q => by
  have := h Z R H ss ws ts vs env σ s ss' Q hl c hg hl2 q
  match ws, this with
  | [x, y], this => exact this
theorem srv_max2 : Srv G (fun xs H Q => ∃ i j, xs = [V.int i, V.int j] ∧ Q (.int (if j > i then j else i)) H) gMax2 := srv_of_r2 (srv_i2 (fun i j => .int (if j > i then j else i)) (fun _ _ _ => rfl) fun i j H Q _ q => ⟨i, j, rfl, q⟩)
theorem srv_min2 : Srv G (fun xs H Q => ∃ i j, xs = [V.int i, V.int j] ∧ Q (.int (if j < i then j else i)) H) gMin2 := srv_of_r2 (srv_i2 (fun i j => .int (if j < i then j else i)) (fun _ _ _ => rfl) fun i j H Q _ q => ⟨i, j, rfl, q⟩)
@[simp] def gAbs : Bf := keep1 fun s => match s with
  | .fz (.int i) => some (.fz (.int (if i < 0 then -i else i)))
  | _ => none
theorem srv_abs : Srv G (fun xs H Q => ∃ i, xs = [V.int i] ∧ Q (.int (if i < 0 then -i else i)) H) gAbs := srv1 fun Z R H s x ts vs env σ w Q c hg q => by
  split at hg
  · cases hg
    have e := c.top
    cases e
    exact ⟨_, rfl, q _ _ _ (c.push rfl)⟩
  · cases hg
@[simp] def gInt : Bf := keep1 fun s => match s with
  | .fz (.int i) => some (.fz (.int i))
  | .fz (.bl b) => some (.fz (.int (if b then 1 else 0)))
  | _ => none
theorem srv_int : Srv G (fun xs H Q => (∃ i, xs = [V.int i] ∧ Q (.int i) H) ∨ ∃ k, xs = [V.bl k] ∧ Q (.int (if k then 1 else 0)) H) gInt := srv1 fun Z R H s x ts vs env σ w Q c hg q => by
  split at hg
  · cases hg
    have e := c.top
    cases e
    exact .inl ⟨_, rfl, q _ _ _ (c.push rfl)⟩
  · cases hg
    have e := c.top
    cases e
    exact .inr ⟨_, rfl, q _ _ _ (c.push rfl)⟩
  · cases hg
@[simp] def gNeg : Bf := keep1 fun s => match s with
  | .fz (.int i) => some (.fz (.int (-i)))
  | _ => none
theorem srv_neg : Srv G (r1l (rU fun i => .int (-i))) gNeg := srv1 fun Z R H s x ts vs env σ w Q c hg q => by
  split at hg
  · cases hg
    have e := c.top
    cases e
    exact ⟨_, rfl, q _ _ _ (c.push rfl)⟩
  · cases hg
/-- list(x): a list or a tuple -/
@[simp] def elemsLT : Sv → Option (List Dt)
  | .fz (.tup ds) => some ds
  | s => elemsL s
@[simp] def gList : Bf := keep1 fun s => (elemsLT s).map fun ds => .lst (ds.map .fz)
theorem elemsLT_ok {Z : Zn} {R H : Hp} {s : Sv} {x : V} {ts : List Sv} {vs : List V} {env : Env} {σ : L2.St} {ds : List Dt} (c : Cfg G Z R H (s :: ts) (x :: vs) env σ) (h : elemsLT s = some ds) : ∃ a ws, x = .ref a ∧ RpDs G R ds ws ∧ (SqL G.K H a ws ∨ SqT G.K H a ws) := by
  unfold elemsLT at h
  split at h
  · cases h
    obtain ⟨a, ws, e, ha, hr⟩ := c.top
    exact ⟨a, ws, e, hr, .inr (sqT_mono c.wf ha)⟩
  · obtain ⟨a, ws, e, hr, hs, _⟩ := elemsL_kp c h
    exact ⟨a, ws, e, hr, .inl hs⟩
theorem srv_list : Srv G (fun xs H Q => ∃ p ys, xs = [V.ref p] ∧ (SqL G.K H p ys ∨ SqT G.K H p ys) ∧ ∀ l, H l = none → Q (.ref l) (upd H l (.lst ys))) gList := srv1 fun Z R H s x ts vs env σ w Q c hg q => by
  obtain ⟨ds, e, rfl⟩ := keep1_some hg
  obtain ⟨a, ws, rfl, hr, hs⟩ := elemsLT_ok c e
  exact ⟨a, ws, rfl, hs, fun l hl => q _ _ _ (c.newFz hr hl)⟩
@[simp] def gTuple : Bf := keep1 fun s => (elemsLT s).map fun ds => .fz (.tup ds)
theorem srv_tuple : Srv G (fun xs H Q => ∃ p ys, xs = [V.ref p] ∧ ((SqL G.K H p ys ∧ ∀ l, H l = none → Q (.ref l) (upd H l (.tup ys))) ∨ (SqT G.K H p ys ∧ Q (.ref p) H))) gTuple := srv1 fun Z R H s x ts vs env σ w Q c hg q => by
  obtain ⟨ds, e, rfl⟩ := keep1_some hg
  unfold elemsLT at e
  split at e
  · cases e
    obtain ⟨a, ws, rfl, ha, hr⟩ := c.top
    exact ⟨a, ws, rfl, .inr ⟨sqT_mono c.wf ha, q _ _ _ (c.push ⟨a, ws, rfl, ha, hr⟩)⟩⟩
  · obtain ⟨a, ws, rfl, hr, hs, _⟩ := elemsL_kp c e
    refine ⟨a, ws, rfl, .inl ⟨hs, fun l hl => ?_⟩⟩
    obtain ⟨c2, e2⟩ := c.grow (.tup ws) hl
    exact q _ _ _ (c2.push ⟨l, ws, rfl, .inl (.inl upd_same), hr.mono e2⟩)
/-- append, pop of an owned list -/
@[simp] def gApp : Bf := fun ss => match ss with
  | [.lst l, .fz d] => if l.length < 16777216 then some (.fz .non, [.lst (l ++ [.fz d]), .fz d]) else none
  | _ => none
theorem line24 : 16777216 ≤ sizeLine := by decide
theorem srv_app : Srv G (rml rAppend) gApp := fun Z R H ss ws ts vs env σ s ss' Q hl c hg hl2 q => by
  unfold gApp at hg
  split at hg
  · rename_i l d
    split at hg
    · rename_i hz
      cases hg
      match ws, hl with
      | [x, y], _ =>
        have c : Cfg G Z R H (.lst l :: .fz d :: ts) (x :: y :: vs) env σ := c
        have ry : RpD G R d y := c.top2
        obtain ⟨f, a, avs, g, rfl, ha, hs, _⟩ := c.topS
        have hal := hs.len
        refine ⟨a, avs, y, rfl, rfl, ha, by rw [← hal]; exact Nat.lt_of_lt_of_le hz line24, ?_⟩
        obtain ⟨av, h1, h2, c2⟩ := Cfg.appD (s := .fz d) (v := y) (c.push ry)
        rw [ha] at h1
        cases h1
        refine q .non R _ ?_
        exact Cfg.push (d := .non) c2 rfl
    · cases hg
  · cases hg
@[simp] def gPop : Bf := fun ss => match ss with
  | [.lst l] => match l.getLast? with
    | some s => some (s, [.lst l.dropLast])
    | none => none
  | _ => none
theorem srv_pop : Srv G (rml rPop) gPop := fun Z R H ss ws ts vs env σ s ss' Q hl c hg hl2 q => by
  unfold gPop at hg
  split at hg
  · rename_i l
    split at hg
    · rename_i s0 hs0
      cases hg
      match ws, hl with
      | [x], _ =>
        have c : Cfg G Z R H (.lst l :: ts) (x :: vs) env σ := c
        obtain ⟨f, a, avs, g, rfl, ha, hs, _⟩ := c.topS
        have hal := hs.len
        have hne : l ≠ [] := fun z => by rw [z] at hs0; cases hs0
        have hne2 : avs ≠ [] := fun z => hne (List.length_eq_zero_iff.mp (by rw [hal, z]; rfl))
        obtain ⟨avs', h1, h2, h3⟩ := Cfg.write (es := []) (evs := []) rfl c
        have e0 : avs' = avs := by
          rw [ha] at h1
          cases h1
          rfl
        subst e0
        refine ⟨a, avs', avs'.getLast hne2, rfl, rfl, ha, by rw [← List.getLast?_eq_getElem?]; exact List.getLast?_eq_some_getLast hne2, ?_⟩
        have el : l = l.dropLast ++ [s] := by
          have e1 : l.getLast hne = s := by rw [List.getLast?_eq_some_getLast hne] at hs0; exact Option.some.inj hs0
          rw [← e1]
          exact (List.dropLast_concat_getLast hne).symm
        have ea : avs' = avs'.dropLast ++ [avs'.getLast hne2] := (List.dropLast_concat_getLast hne2).symm
        refine q _ _ _ (h3 [s] [avs'.getLast hne2] l.dropLast avs'.dropLast fun H' g hr => ?_)
        rw [List.nil_append, List.nil_append] at hr
        rw [el, ea] at hr
        have hdl : l.dropLast.length = avs'.dropLast.length := by rw [List.length_dropLast, List.length_dropLast, hal]
        obtain ⟨g1, g2, r1, r2, z⟩ := RpSs.split' hdl hr
        exact ⟨g2, g1, r2, r1, fun b => by have := z b; omega⟩
    · cases hg
  · cases hg
/-- sorted, each once -/
def insU (k : Int) : List Int → List Int
  | [] => [k]
  | a :: r => if k < a then k :: a :: r else if k = a then a :: r else a :: insU k r
def uniq : List Int → List Int
  | [] => []
  | k :: r => insU k (uniq r)
theorem insU_mem {k x : Int} : ∀ {l : List Int}, x ∈ insU k l ↔ x = k ∨ x ∈ l
  | [] => by simp [insU]
  | a :: r => by
    unfold insU
    split
    · simp
    · split
      · rename_i h; subst h; simp
      · rw [List.mem_cons, insU_mem, List.mem_cons]
        constructor
        · rintro (h | h | h)
          · exact .inr (.inl h)
          · exact .inl h
          · exact .inr (.inr h)
        · rintro (h | h | h)
          · exact .inr (.inl h)
          · exact .inl h
          · exact .inr (.inr h)
theorem insU_lt {k : Int} : ∀ {l : List Int}, l.Pairwise (· < ·) → (insU k l).Pairwise (· < ·)
  | [], _ => List.pairwise_singleton _ _
  | a :: r, h => by
    obtain ⟨h1, h2⟩ := List.pairwise_cons.mp h
    unfold insU
    split
    · rename_i hk
      refine List.pairwise_cons.mpr ⟨fun y hy => ?_, h⟩
      rcases List.mem_cons.mp hy with rfl | hy
      · exact hk
      · exact Int.lt_trans hk (h1 y hy)
    · split
      · exact h
      · rename_i n1 n2
        refine List.pairwise_cons.mpr ⟨fun y hy => ?_, insU_lt h2⟩
        rcases insU_mem.mp hy with rfl | hy
        · omega
        · exact h1 y hy
theorem uniq_mem {x : Int} : ∀ {l : List Int}, x ∈ uniq l ↔ x ∈ l
  | [] => Iff.rfl
  | k :: r => by rw [uniq, insU_mem, uniq_mem, List.mem_cons]
theorem uniq_lt : ∀ {l : List Int}, (uniq l).Pairwise (· < ·)
  | [] => List.Pairwise.nil
  | k :: r => insU_lt uniq_lt
theorem lt_unique : ∀ {l m : List Int}, l.Pairwise (· < ·) → m.Pairwise (· < ·) → (∀ x, x ∈ l ↔ x ∈ m) → l = m
  | [], [], _, _, _ => rfl
  | [], b :: m, _, _, h => absurd ((h b).mpr List.mem_cons_self) (by simp)
  | a :: l, [], _, _, h => absurd ((h a).mp List.mem_cons_self) (by simp)
  | a :: l, b :: m, h1, h2, h => by
    obtain ⟨p1, p2⟩ := List.pairwise_cons.mp h1
    obtain ⟨q1, q2⟩ := List.pairwise_cons.mp h2
    have e : a = b := by
      rcases List.mem_cons.mp ((h a).mp List.mem_cons_self) with e | e
      · exact e
      · rcases List.mem_cons.mp ((h b).mpr List.mem_cons_self) with e' | e'
        · exact e'.symm
        · have := q1 a e; have := p1 b e'; omega
    subst e
    rw [lt_unique p2 q2 fun x => ?_]
    constructor
    · intro hx
      rcases List.mem_cons.mp ((h x).mp (List.mem_cons_of_mem _ hx)) with e | e
      · have := p1 x hx; omega
      · exact e
    · intro hx
      rcases List.mem_cons.mp ((h x).mpr (List.mem_cons_of_mem _ hx)) with e | e
      · have := q1 x hx; omega
      · exact e
theorem uniq_len : ∀ l : List Int, (uniq l).length ≤ l.length
  | [] => Nat.le_refl _
  | k :: r => by
    have h : ∀ m : List Int, (insU k m).length ≤ m.length + 1 := by
      intro m
      induction m with
      | nil => exact Nat.le_refl _
      | cons a m ih =>
        unfold insU
        split
        · exact Nat.le_refl _
        · split
          · exact Nat.le_succ _
          · simpa using ih
    rw [uniq, List.length_cons]
    exact Nat.le_trans (h _) (Nat.succ_le_succ (uniq_len r))
end
section
variable {X : Cx}
def rSetI (K : PySem.W.Frag) (w : World) : List V → Hp → VK → Prop := fun vs H Q => ∃ (a : Addr) (ns : List Int), vs = [V.ref a] ∧ SqL K H a (ns.map V.int) ∧ ns.length < 4000 ∧
  ∀ p, H p = none → Q (.ref p) (upd H p (SetO w p (fun k => decide (k ∈ ns)) (uniq ns).length))
theorem firstMet_mem (ns : List Int) (k : Int) : (firstMet (fun i => ns.getD i 0) ns.length).any (· == k) = decide (k ∈ ns) := by
  rw [firstMet_any]
  have e : (List.range ns.length).map (fun i => ns.getD i 0) = ns := by
    apply List.ext_getElem
    · rw [List.length_map, List.length_range]
    · intro i h1 h2
      rw [List.getElem_map, List.getElem_range, List.getD_eq_getElem?_getD, List.getElem?_eq_getElem h2]
      rfl
  rw [e]
  by_cases h : k ∈ ns
  · rw [decide_eq_true h]
    exact List.any_eq_true.mpr ⟨k, h, beq_self_eq_true k⟩
  · rw [decide_eq_false h]
    refine Bool.eq_false_iff.mpr fun z => h ?_
    obtain ⟨x, hx, e⟩ := List.any_eq_true.mp z
    rw [← beq_iff_eq.mp e]
    exact hx
theorem dedup_nodup : ∀ (l acc : List Int), acc.Nodup → (l.foldl step_dedup acc).Nodup
  | [], acc, h => h
  | a :: l, acc, h => by
    refine dedup_nodup l _ ?_
    unfold step_dedup
    split
    · exact h
    · rename_i hn
      refine List.nodup_append.mpr ⟨h, List.pairwise_singleton _ _, fun x hx y hy e => ?_⟩
      rw [List.mem_singleton.mp hy] at e
      subst e
      exact hn (List.any_eq_true.mpr ⟨x, hx, beq_self_eq_true x⟩)
theorem lt_nodup {l : List Int} (h : l.Pairwise (· < ·)) : l.Nodup := h.imp fun h => by omega
theorem firstMet_len (ns : List Int) : (firstMet (fun i => ns.getD i 0) ns.length).length = (uniq ns).length := by
  have n1 : (firstMet (fun i => ns.getD i 0) ns.length).Nodup := dedup_nodup _ _ List.nodup_nil
  have n2 := lt_nodup (uniq_lt (l := ns))
  have m : ∀ k, k ∈ firstMet (fun i => ns.getD i 0) ns.length ↔ k ∈ uniq ns := fun k => by
    rw [uniq_mem]
    have := firstMet_mem ns k
    constructor
    · intro h
      have t : ((firstMet (fun i => ns.getD i 0) ns.length).any fun x => x == k) = true := List.any_eq_true.mpr ⟨k, h, beq_self_eq_true k⟩
      rw [t] at this
      exact of_decide_eq_true this.symm
    · intro h
      rw [decide_eq_true h] at this
      obtain ⟨x, hx, e⟩ := List.any_eq_true.mp this
      rw [← beq_iff_eq.mp e]
      exact hx
  exact Nat.le_antisymm (n1.length_le_of_subset fun k hk => (m k).mp hk) (n2.length_le_of_subset fun k hk => (m k).mpr hk)
theorem cr_setI (hc : X.calm = true) : CallR X (.type "set") (rSetI X.K X.w) := by
  intro pins s σ H xs us Q I r h
  obtain ⟨a, ns, rfl, hs, hf, q⟩ := h
  rw [Vals.ref1 r]
  obtain ⟨its, rv, pl, hz⟩ := I.list hs
  have hn : H s.heap.objs.size = none := I.hok.fresh (Nat.le_refl _)
  have hlen : its.toArray.size = ns.length := by rw [List.size_toArray, ← rv.length, List.length_map]
  refine call_set_R (ns := ns) (I.ok.hd hc) pl.isList (by simpa using rv.ints) (by rw [hlen]; unfold scanBound; omega) fun h' tk R k => ?_
  rw [hlen, firstMet_len] at R
  have e : (fun k' => (firstMet (fun i => ns.getD i 0) ns.length).any (· == k')) = fun k => decide (k ∈ ns) := funext fun k => firstMet_mem ns k
  rw [e] at R
  exact ⟨.ref s.heap.objs.size, upd H s.heap.objs.size (SetO X.w s.heap.objs.size (fun k => decide (k ∈ ns)) (uniq ns).length), I.laid (t' := tk) k (Nat.le_refl _) (setO_new R), rfl, q _ hn⟩
end
section
variable {C : Str → Addr} {X : Cx} {W : WX} {a : Expr} {fA : Env → Res (List Arg × Env)}
def gSortSet : Bf := keep1 fun s => (intsS s).bind fun ns => if ns.length < 64 then some (.lst ((uniq ns).map fun i => .fz (.int i))) else none
theorem ints_rp {G : Gd} {R : Hp} : ∀ ns : List Int, RpDs G R (ns.map Dt.int) (ns.map V.int)
  | [] => rfl
  | n :: ns => ⟨_, _, rfl, rfl, ints_rp ns⟩
/-- sorted(set(xs)), xs a list of ints -/
theorem ve_sortSet {p q pos pos2 : Pos} (hc : X.calm = true) (hg : Gl X "sorted") (hm : X.mg "sorted" = none) (hg2 : Gl X "set") (hm2 : X.mg "set" = none) (ha : VA C X W [a] fA) (hs : starEach [a] X.env = (false, eval a X.env) :: starEach [] X.env := by rfl)
    (hs2 : starEach [.Call (.Name "set" q) [a] [] pos2] X.env = (false, eval (.Call (.Name "set" q) [a] [] pos2) X.env) :: starEach [] X.env := by rfl) (hpl : (backTo pos2 (starEach [] X.env)).any (·.1) = false := by rfl) (hpl2 : (backTo pos (starEach [] X.env)).any (·.1) = false := by rfl) :
    VE C X W (.Call (.Name "sorted" p) [.Call (.Name "set" q) [a] [] pos2] [] pos) (eCall gSortSet fA) := by
  refine ⟨fun Z => pe_imp (pe_callB (id := "sorted") (cr_sortedSet hc) hg hm PyProof.Rows.boot_sorted (pa_cons (pe_callTy (T := "set") (cr_setI hc) hg2 hm2 boot_set (ha.run Z) (by decide) (by decide) hs hpl) pa_nil hs2) (by decide) (by decide) hs2 hpl2) fun σ H Q h => ?_⟩
  refine AR.bind h fun R1 H1 ts vs as ws e c o => ?_
  obtain ⟨ss, tw, t, c⟩ := c
  unfold finA at o
  split at o
  · exact o.elim
  · rename_i p hp
    obtain ⟨out, e'⟩ := p
    obtain ⟨c1, l1⟩ := take_all t hp c
    split at o
    · exact o.elim
    · rename_i q hq
      obtain ⟨s, ss'⟩ := q
      split at o
      · rename_i hl
        obtain ⟨s0, rfl⟩ : ∃ s0, out = [s0] := by
          unfold gSortSet keep1 at hq
          split at hq
          · rename_i s0 he
            exact ⟨s0, he⟩
          · cases hq
        obtain ⟨x, rfl⟩ : ∃ x, ws = [x] := by
          match ws, l1 with
          | [x], _ => exact ⟨x, rfl⟩
        have c1 : Cfg (gd X C) Z R1 H1 (s0 :: ts) (x :: vs) e' σ := c1
        have hq : ((intsS s0).bind fun ns => if ns.length < 64 then some (Sv.lst ((uniq ns).map fun i => .fz (.int i))) else none).map (fun r => (r, [s0])) = some (s, ss') := hq
        cases e1 : intsS s0 with
        | none => rw [e1] at hq; cases hq
        | some ns =>
          rw [e1] at hq
          have hq : (if ns.length < 64 then some (Sv.lst ((uniq ns).map fun i => .fz (.int i))) else none).map (fun r => (r, [s0])) = some (s, ss') := hq
          split at hq
          · rename_i h64
            cases hq
            obtain ⟨a', rfl, hsq⟩ := intsS_ok c1 e1
            refine ⟨a', ns, rfl, hsq, by omega, fun p hp' => ?_⟩
            obtain ⟨c2, e2⟩ := Cfg.grow (SetO X.w p (fun k => decide (k ∈ ns)) (uniq ns).length) c1 hp'
            refine ⟨p, _, _, rfl, upd_same, by have := uniq_len ns; omega, fun ns' p' h1 h2 h3 h4 => ?_⟩
            have en : ns' = uniq ns := lt_unique h1 uniq_lt fun x => by rw [h2, uniq_mem, decide_eq_true_iff]
            subst en
            have c3 := Cfg.newFz c2 (ints_rp (uniq ns)) h4
            rw [List.map_map] at c3
            exact o _ _ _ (put_ok t (ss := [s0]) (ws := [V.ref a']) (ts := .lst _ :: ts) (vs := .ref p' :: vs) rfl (Cfg.under (ss := [s0]) (ws := [V.ref a']) rfl c3))
          · cases hq
      · exact o.elim
end
end Fw
set_option Elab.async false
set_option linter.all false
set_option maxRecDepth 100000
set_option maxHeartbeats 1000000
/-! sorted(.., reverse=..), list(reversed(..)), isinstance, slices, op=. -/
namespace Fw
open PySem PySem.Spec PyProof.Rows L2
section
variable {C : Str → Addr} {X : Cx} {W : WX} {e : Expr} {es : List Expr} {fA : Env → Res (List Arg × Env)} {f : Ex}
theorem srv_sortedR {G : Gd} {b : Bool} : Srv G (rSrt G.K b) (gSorted b) := srv1 fun Z R H s x ts vs env σ w Q c hg q => sorted_core c hg q
theorem ve_sortedR {b : Bool} {p pos kp : Pos} {ki : Nat} {kpos : Pos} (hu : X.A.units + 64 < cLine) (hg : Gl X "sorted") (hm : X.mg "sorted" = none) (ha : VA C X W [e] fA)
    (he : backTo pos (starEach [e] X.env) = (false, eval e X.env) :: backTo pos (starEach [] X.env) := by rfl) (hpl : (backTo pos (starEach [e] X.env)).any (·.1) = false := by rfl)
    (hall : (backToKw pos (keywordEach [⟨some (Str.ofString "reverse"), .Constant (.bool b) ki kp, kpos⟩] X.env)).all (·.1.isSome) = true := by rfl) (hnone : (backToKw pos (keywordEach [⟨some (Str.ofString "reverse"), .Constant (.bool b) ki kp, kpos⟩] X.env)).any (·.1.isNone) = false := by rfl)
    (hks : (backToKw pos (keywordEach [⟨some (Str.ofString "reverse"), .Constant (.bool b) ki kp, kpos⟩] X.env)).filterMap (·.1) = [Str.ofString "reverse"] := by rfl) :
    VE C X W (.Call (.Name "sorted" p) [e] [⟨some (Str.ofString "reverse"), .Constant (.bool b) ki kp, kpos⟩] pos) (eCall (gSorted b) fA) :=
  ⟨fun Z => pe_imp (pe_callBK (cr_srtR (b := b) hu) hg hm PyProof.Rows.boot_sorted (ha.run Z) (pk_cons pe_bl pk_nil) (by decide) (by decide) he hpl hall hnone hks) fun σ H Q h => AR.bind h fun _ _ _ _ _ _ _ c o => ⟨rfl, fin_ok srv_sortedR c o⟩⟩
/-- list(reversed(xs)) -/
@[simp] def gLstRev : Bf := keep1 fun s => (elemsL s).map fun ds => .lst (ds.reverse.map .fz)
theorem RpDs.reverse {G : Gd} {R : Hp} : ∀ {ds : List Dt} {ws : List V}, RpDs G R ds ws → RpDs G R ds.reverse ws.reverse
  | [], _, h => by cases h; exact rfl
  | d :: ds, _, ⟨v, vr, q, h, r⟩ => by
    subst q
    rw [List.reverse_cons, List.reverse_cons]
    exact RpDs.append (RpDs.reverse r) ⟨v, [], rfl, h, rfl⟩
theorem srv_lstRev {G : Gd} : Srv G (r1l fun v H Q => ∃ (a : Addr) (xs : List V), v = .ref a ∧ SqL G.K H a xs ∧ ∀ q, H q = none → Q (.ref q) (upd H q (.lst xs.reverse))) gLstRev := srv1 fun Z R H s x ts vs env σ w Q c hg q => by
  obtain ⟨ds, e, rfl⟩ := keep1_some hg
  obtain ⟨a, ws, rfl, hr, hs, _⟩ := elemsL_kp c e
  exact ⟨a, ws, rfl, hs, fun l hl => q _ _ _ (c.newFz hr.reverse hl)⟩
theorem ve_lstRev {p p2 pos pos2 : Pos} (hc : X.calm = true) (hg : Gl X "list") (hm : X.mg "list" = none) (hg2 : Gl X "reversed") (hm2 : X.mg "reversed" = none) (he : VE C X W e f)
    (hs : starEach [e] X.env = (false, eval e X.env) :: starEach [] X.env := by rfl)
    (hs2 : starEach [.Call (.Name "reversed" p2) [e] [] pos2] X.env = (false, eval (.Call (.Name "reversed" p2) [e] [] pos2) X.env) :: starEach [] X.env := by rfl) :
    VE C X W (.Call (.Name "list" p) [.Call (.Name "reversed" p2) [e] [] pos2] [] pos) (eUn gLstRev f) :=
  ⟨fun Z => pe_imp (pe_lstRev hc hg hm hg2 hm2 (he.run Z) hs hs2) fun σ H Q h => h.bind fun _ _ _ _ _ _ _ c o => by
    obtain ⟨ss, tw, t, c1⟩ := c.tmp
    exact fin_ok srv_lstRev ⟨ss, tw, t, c1⟩ o⟩
/-! ### isinstance of a built-in class -/
@[simp] def tyS : Sv → Option String
  | .fz .non => some "NoneType"
  | .fz (.bl _) => some "bool"
  | .fz (.int _) => some "int"
  | .fz (.str _) => some "str"
  | .fz (.tup _) => some "tuple"
  | .fz (.lst _) => some "list"
  | .lst _ => some "list"
  | _ => none
/-- subtypes among these -/
def subT (t T : String) : Bool := t == T || (t == "bool" && T == "int")
@[simp] def gIsi (T : String) : Bf := keep1 fun s => (tyS s).map fun t => .fz (.bl (subT t T))
theorem tyS_ok {Z : Zn} {R H : Hp} {s : Sv} {x : V} {ts : List Sv} {vs : List V} {env : Env} {σ : L2.St} {t : String} (c : Cfg (gd X C) Z R H (s :: ts) (x :: vs) env σ) (h : tyS s = some t) : TyX X.K H x (.type t) := by
  have sub := c.wf
  obtain ⟨f, r⟩ := c.topS
  cases s with
  | lst ss =>
    cases h
    obtain ⟨a, ws, g, rfl, ha, _⟩ := r
    exact .base (.lst ha)
  | ins c ns ss => cases h
  | fz d =>
    obtain ⟨r, _⟩ := r
    cases d with
    | non => cases h; cases r; exact .base .non
    | bl b => cases h; cases r; exact .base (.bl b)
    | int i => cases h; cases r; exact .base (.int i)
    | str z => cases h; cases r; exact .base (.str z)
    | tup ds =>
      cases h
      obtain ⟨a, ws, rfl, ha, _⟩ := r
      rcases ha with (ha | ⟨o, ha⟩) | ha
      · exact .base (.tup (sub _ _ ha))
      · exact .fTuple (sub _ _ ha)
      · obtain ⟨o, its, n, ho, hc, _⟩ := ha
        exact TyX.kTuple ho hc
    | lst ds =>
      cases h
      obtain ⟨a, ws, rfl, ha, _⟩ := r
      rcases ha with (ha | ⟨o, ha⟩) | ha
      · exact .base (.lst (sub _ _ ha))
      · exact .base (.frz (sub _ _ ha))
      · obtain ⟨o, its, n, ho, hc, _⟩ := ha
        exact .kList ho hc
    | obj _ _ _ => cases h
def kitT (K : PySem.W.Frag) (T : String) : Prop := ∀ t ∈ ["NoneType", "bool", "int", "str", "tuple", "list"], PySem.W.kitOne K (.type t) (.type T) = some (subT t T)
theorem ve_isi {T : Str} {T' : String} {p q pos : Pos} (hg : Gl X "isinstance") (hm : X.mg "isinstance" = none) (hg2 : Gl X T) (hm2 : X.mg T = none) (hb : bootBuiltins T = some (.type T')) (hk : kitT X.K T') (he : VE C X W e f) (hn : T ≠ "__name__" := by decide) (hd : (T == ("__debug__" : Str)) = false := by decide)
    (hs : starEach [e, .Name T q] X.env = (false, eval e X.env) :: starEach [.Name T q] X.env := by rfl) (hs2 : starEach [.Name T q] X.env = (false, eval (.Name T q) X.env) :: starEach [] X.env := by rfl) (hpl : (backTo pos (starEach [.Name T q] X.env)).any (·.1) = false := by rfl) :
    VE C X W (.Call (.Name "isinstance" p) [e, .Name T q] [] pos) (eUn (gIsi T') f) :=
  ⟨fun Z => pe_imp (pe_callB (id := "isinstance") call_isi hg hm PyProof.Rows.boot_isinstance (pa_cons (he.run Z) (pa_cons (pe_bltn hg2 hm2 hb (v := .ty T') rfl hn hd) pa_nil hs2) hs) (by decide) (by decide) hs hpl) fun σ H Q h => h.bind fun R1 H1 ts vs a v e c o => by
    obtain ⟨ss, tw, t, c1⟩ := c.tmp
    have key : Srv (gd X C) (r1l fun x H Q => ∃ t b, TyX X.K H x t ∧ PySem.W.kitOne X.K t (.type T') = some b ∧ Q (.bl b) H) (gIsi T') := srv1 fun Z R H s x ts vs env σ w Q c hg q => by
      obtain ⟨t, e, rfl⟩ := keep1_some hg
      have ht : t ∈ ["NoneType", "bool", "int", "str", "tuple", "list"] := by
        unfold tyS at e
        split at e <;> first | (cases e; decide) | cases e
      exact ⟨_, _, tyS_ok c e, hk t ht, q _ _ _ (c.push rfl)⟩
    obtain ⟨t', b, h1, h2, h3⟩ : (r1l fun x H Q => ∃ t b, TyX X.K H x t ∧ PySem.W.kitOne X.K t (.type T') = some b ∧ Q (.bl b) H) [v] H1 Q := fin_ok key ⟨ss, tw, t, c1⟩ o
    exact ⟨v, .ty T', t', .type T', b, rfl, .ty _, h1, h2, h3⟩⟩
/-! ### op= of a name -/
@[simp] def ipB (g : Int → Int → Int) (pc : Int → Int → Bool) : Bf := keep2 (i2 pc fun i j => .int (g i j))
@[simp] def sAug (i : Nat) (g : Bf) (f : Ex) : Stx := fun env => match env[i]? with
  | some (some (.fz d)) => ofE (f env) fun a e => match a with
    | .v s => match g [.fz d, s] with
      | some (s', _) => putS i s' e
      | none => .bad
    | .r _ => .bad
  | _ => .bad
theorem i2_some {p : Int → Int → Bool} {f : Int → Int → Dt} {s u w : Sv} (h : i2 p f s u = some w) : ∃ i j, s = .fz (.int i) ∧ u = .fz (.int j) ∧ p i j = true ∧ w = .fz (f i j) := by
  unfold i2 at h
  split at h
  · split at h
    · rename_i hp
      cases h
      exact ⟨_, _, rfl, rfl, hp, rfl⟩
    · cases h
  · cases h
theorem vs_augI {P : List Bool} {i : Nat} {x : Str} {op : Operator} {g : Int → Int → Int} {pc : Int → Int → Bool} {ti : TIp} {pos pos' : Pos} (hN : X.N.Nodup) (hi : X.N[i]? = some x) (hx : Loc X.env.scope x) (hP : P.getD i false = false) (he : VE C X W e f)
    (ho : PIp X op ti) (hti : ∀ i j H Q, pc i j = true → Q (.int (g i j)) H → ti (.int i) (.int j) H Q)
    (hf : X.fn x = true ∨ X.env.scope.names.lookup x = some .local := by first | exact .inl rfl | exact .inr rfl | assumption) :
    VS C X W P (.AugAssign (.Name x pos') op e pos) (sAug i (ipB g pc) f) :=
  ⟨fun Z pz => ps_imp (ps_aug hN hi hx (he.run Z) ho hf) fun D σ H h => by
    obtain ⟨R, env, c, o⟩ := h
    unfold sAug at o
    split at o
    · rename_i d hd
      obtain ⟨v0, hv, r0⟩ := c.slot hd
      refine ⟨v0, hv, R, [.fz d], [v0], env, c.push r0, ?_⟩
      revert o
      generalize f env = r
      intro o
      match r, o with
      | .exc x e, o => exact o σ
      | .ok (a, e), o =>
        intro v R' H' c'
        cases a with
        | r i => exact o.elim
        | v s =>
          have o : OutS (gd X C) Z W D (match ipB g pc [.fz d, s] with
            | some (s', _) => putS i s' e
            | none => .bad) := o
          have c' : Cfg (gd X C) Z R' H' (s :: .fz d :: []) (v :: v0 :: []) e σ := c'
          cases hq : ipB g pc [.fz d, s] with
          | none => rw [hq] at o; exact o.elim
          | some p =>
            obtain ⟨s', ss'⟩ := p
            rw [hq] at o
            have o : OutS (gd X C) Z W D (putS i s' e) := o
            unfold ipB keep2 at hq
            have hq : (i2 pc (fun i j => .int (g i j)) (.fz d) s).map (fun r => (r, [.fz d, s])) = some (s', ss') := hq
            cases h2 : i2 pc (fun i j => .int (g i j)) (.fz d) s with
            | none => rw [h2] at hq; cases hq
            | some w =>
              rw [h2] at hq
              cases hq
              obtain ⟨i1, j1, e1, rfl, hpc, rfl⟩ := i2_some h2
              cases e1
              have q1 : v = .int _ := c'.top
              have q2 : v0 = .int _ := c'.top2
              subst q1 q2
              exact hti i1 j1 H' _ hpc (putS_ok (pz i hP) (c'.pop.pop.push (d := .int (g i1 j1)) rfl) o)
    · exact o.elim⟩
theorem vs_addI {P : List Bool} {i : Nat} {x : Str} {pos pos' : Pos} (hN : X.N.Nodup) (hi : X.N[i]? = some x) (hx : Loc X.env.scope x) (hP : P.getD i false = false) (he : VE C X W e f) (hf : X.fn x = true ∨ X.env.scope.names.lookup x = some .local := by first | exact .inl rfl | exact .inr rfl | assumption) :
    VS C X W P (.AugAssign (.Name x pos') .Add e pos) (sAug i (ipB (· + ·) pT) f) := vs_augI hN hi hx hP he ip_add (fun i j H Q _ q => ⟨i, j, rfl, rfl, q⟩) hf
theorem vs_subI {P : List Bool} {i : Nat} {x : Str} {pos pos' : Pos} (hN : X.N.Nodup) (hi : X.N[i]? = some x) (hx : Loc X.env.scope x) (hP : P.getD i false = false) (he : VE C X W e f) (hf : X.fn x = true ∨ X.env.scope.names.lookup x = some .local := by first | exact .inl rfl | exact .inr rfl | assumption) :
    VS C X W P (.AugAssign (.Name x pos') .Sub e pos) (sAug i (ipB (· - ·) pT) f) := vs_augI hN hi hx hP he ip_sub (fun i j H Q _ q => ⟨i, j, rfl, rfl, q⟩) hf
end
end Fw
set_option Elab.async false
set_option linter.all false
set_option maxRecDepth 100000
set_option maxHeartbeats 1000000
/-! Short rules for the printed derivations (printed by mkgen.py). -/
namespace Fw
open PySem PySem.Spec PyProof.Rows L2

/-! ### comparisons as tests -/
/-- a test whose value is a truth value -/
@[simp] def tBl (f : Ex) : Tx := fun env => (f env).bind fun p => match p.1 with
  | .v (.fz (.bl b)) => .ok (b, p.2)
  | _ => .bad
section
variable {C : Str → Addr} {X : Cx} {W : WX} {P : List Bool} {a b c d : Expr} {fa fb fc f g : Ex} {pos : Pos} {tf tg th : Tx}
theorem tBl_er {G : Gd} {Z : Zn} {σ : L2.St} {H : Hp} {Q : Bool → Hp → Prop} (h : TTR G Z W (tBl f) σ H Q) : ER G Z W f σ H fun v H' => ∃ k, v = .bl k ∧ Q k H' := by
  obtain ⟨R, ts, vs, env, c, o⟩ := h
  refine ⟨R, ts, vs, env, c, ?_⟩
  unfold tBl at o
  revert o
  generalize f env = r
  intro o
  match r, o with
  | .exc x e, o => exact o
  | .ok (a, e), o =>
    intro v R' H' c'
    simp only [Res.bind] at o
    split at o
    · rename_i k
      have c' : Cfg G Z R' H' (.fz (.bl k) :: ts) (v :: vs) e σ := c'
      exact ⟨k, c'.top, o R' H' c'.pop⟩
    · exact o.elim
theorem vt_cmp {op : CmpOp} {r : R2} {g : List Sv → Option (Sv × List Sv)} (hr : OpR X (compareOp op) r) (hg : Srv (gd X C) (r2l r) g) (ha : VE C X W a fa) (hb : VE C X W b fb) (hm : behindInMarks op b = false) : VT C X W (.Compare a [op] [b] pos) (tBl (eBin g fa fb)) :=
  ⟨fun Z => pt_imp (pt_cmpR hr (ha.run Z) (hb.run Z) hm) fun σ H Q h => er_two (k := fun a b e => finA g [a, b] e) (tBl_er h) fun _ _ _ _ _ _ _ _ _ c o => fin_ok hg c o⟩
def tIfX (t f g : Tx) : Tx := fun env => (t env).bind fun p => if p.1 then f p.2 else g p.2
/-- a op b op' c -/
def eChn (g g' : Bf) (fa fb fc : Ex) : Ex := fun env => (fa env).bind fun p => (fb p.2).bind fun q => match p.1, q.1 with
  | .v s, .v (.fz d) => match g [s, .fz d] with
    | some (.fz (.bl true), _) => (fc q.2).bind fun r => finA g' [.v (.fz d), r.1] r.2
    | some (.fz (.bl false), _) => .ok (.v (.fz (.bl false)), q.2)
    | _ => .bad
  | _, _ => .bad
end
/-! ### blocks, loops, frames -/
instance {N : List Str} {sc scope : Scope} {own : List (Str × Nat)} : Decidable (scope.kind = .function ∧ (∀ y ∈ scope.names, scope.names.lookup y.1 = some y.2) ∧ (∀ p ∈ own, N[p.2]? = some p.1) ∧ (∀ y ∈ scope.names, y.2 = .free → sc.names.lookup y.1 = some .cell ∨ sc.names.lookup y.1 = some .free) ∧ (∀ y ∈ scope.names, y.2 = .local ∨ y.2 = .cell → y.1 ∈ own.map (·.1) ∨ y.1 ∉ N)) := inferInstance
def blkB (N : List Str) (sc scope : Scope) (own : List (Str × Nat)) : Bool := decide (scope.kind = .function ∧ (∀ y ∈ scope.names, scope.names.lookup y.1 = some y.2) ∧ (∀ p ∈ own, N[p.2]? = some p.1) ∧ (∀ y ∈ scope.names, y.2 = .free → sc.names.lookup y.1 = some .cell ∨ sc.names.lookup y.1 = some .free) ∧ (∀ y ∈ scope.names, y.2 = .local ∨ y.2 = .cell → y.1 ∈ own.map (·.1) ∨ y.1 ∉ N))
theorem blk_of {N : List Str} {sc scope : Scope} {own : List (Str × Nat)} (h : blkB N sc scope own = true) : BlkOk N sc scope own :=
  let ⟨h1, h2, h3, h4, h5⟩ := of_decide_eq_true h
  ⟨h1, h2, h3, h4, h5⟩
def ppB (P P' : List Bool) : Bool := (List.range P.length).all fun j => !(P.getD j false) || P'.getD j false
theorem pp_of {P P' : List Bool} (h : ppB P P' = true) : ∀ j, P.getD j false = true → P'.getD j false = true := fun j hj => by
  by_cases hl : j < P.length
  · have := List.all_eq_true.mp h j (List.mem_range.mpr hl)
    rw [hj] at this
    exact this
  · rw [List.getD_eq_getElem?_getD, List.getElem?_eq_none (by omega)] at hj
    cases hj
section
variable {P : Program} {w : World} {K : PySem.W.Frag} {mg : Str → Option Value} {base : Heap} {N : List Str} {qual : Str} {scope : Scope} {f : Addr} {cd : Value} {A : Around} {outer : List PySem.Env} {s : Shared} {H : Hp} {E : XK}
theorem takes_cx : Takes (cxOf (L2.CX P w) P w K mg base N qual scope f cd A outer s H E) (fun c d _ H' => E c d H') := takes_of rfl rfl rfl rfl
theorem passes_cx : PassesOwn (model P w) (cxOf (L2.CX P w) P w K mg base N qual scope f cd A outer s H E).A (cxOf (L2.CX P w) P w K mg base N qual scope f cd A outer s H E).env (cxOf (L2.CX P w) P w K mg base N qual scope f cd A outer s H E).xe := passes_of (X := cxOf (L2.CX P w) P w K mg base N qual scope f cd A outer s H E) rfl
end
theorem takes_no {X : Cx} : Takes X Wno := fun _ _ ⟨_, _, _, _, _, _, _, _, _, _, _, _, _, _, _, _, w⟩ => w.elim

section
variable {C : Str → Addr} {X : Cx} {W : WX} {P : List Bool} {a b c d : Expr} {fa fb fc f g : Ex} {pos p q : Pos} {tf tg th : Tx} {fA : Env → Res (List Arg × Env)}
theorem n_add (ha : VE C X W a fa) (hb : VE C X W b fb) : VE C X W (.BinOp a .Add b pos) (eBin gAdd fa fb) := ve_op op_addS srv_add ha hb
theorem n_sub (ha : VE C X W a fa) (hb : VE C X W b fb) : VE C X W (.BinOp a .Sub b pos) (eBin gSub fa fb) := ve_op op_sub srv_sub ha hb
theorem n_mul (ha : VE C X W a fa) (hb : VE C X W b fb) : VE C X W (.BinOp a .Mult b pos) (eBin gMul fa fb) := ve_op op_mul srv_mul ha hb
theorem n_fdiv (ha : VE C X W a fa) (hb : VE C X W b fb) : VE C X W (.BinOp a .FloorDiv b pos) (eBin gDiv fa fb) := ve_op op_fdivN srv_div ha hb
theorem n_mod (ha : VE C X W a fa) (hb : VE C X W b fb) : VE C X W (.BinOp a .Mod b pos) (eBin gMod fa fb) := ve_op op_modN srv_mod ha hb
theorem n_pow (ha : VE C X W a fa) (hb : VE C X W b fb) : VE C X W (.BinOp a .Pow b pos) (eBin gPow fa fb) := ve_op op_pow srv_pow ha hb
theorem n_shl (ha : VE C X W a fa) (hb : VE C X W b fb) : VE C X W (.BinOp a .LShift b pos) (eBin gShl fa fb) := ve_op op_shl srv_shl ha hb
theorem n_shr (ha : VE C X W a fa) (hb : VE C X W b fb) : VE C X W (.BinOp a .RShift b pos) (eBin gShr fa fb) := ve_op op_shr srv_shr ha hb
theorem n_and (ha : VE C X W a fa) (hb : VE C X W b fb) : VE C X W (.BinOp a .BitAnd b pos) (eBin gAnd fa fb) := ve_op op_and srv_and ha hb
theorem n_or (ha : VE C X W a fa) (hb : VE C X W b fb) : VE C X W (.BinOp a .BitOr b pos) (eBin gOr fa fb) := ve_op op_or srv_or ha hb
theorem n_xor (ha : VE C X W a fa) (hb : VE C X W b fb) : VE C X W (.BinOp a .BitXor b pos) (eBin gXor fa fb) := ve_op op_xor srv_xor ha hb
theorem n_lt (ha : VE C X W a fa) (hb : VE C X W b fb) : VE C X W (.Compare a [.Lt] [b] pos) (eBin gLt fa fb) := ve_cmp op_lt srv_lt ha hb (nomark _)
theorem t_lt (ha : VE C X W a fa) (hb : VE C X W b fb) : VT C X W (.Compare a [.Lt] [b] pos) (tBl (eBin gLt fa fb)) := vt_cmp op_lt srv_lt ha hb (nomark _)
theorem n_le (ha : VE C X W a fa) (hb : VE C X W b fb) : VE C X W (.Compare a [.LtE] [b] pos) (eBin gLe fa fb) := ve_cmp op_le srv_le ha hb (nomark _)
theorem t_le (ha : VE C X W a fa) (hb : VE C X W b fb) : VT C X W (.Compare a [.LtE] [b] pos) (tBl (eBin gLe fa fb)) := vt_cmp op_le srv_le ha hb (nomark _)
theorem n_gt (ha : VE C X W a fa) (hb : VE C X W b fb) : VE C X W (.Compare a [.Gt] [b] pos) (eBin gGt fa fb) := ve_cmp op_gt srv_gt ha hb (nomark _)
theorem t_gt (ha : VE C X W a fa) (hb : VE C X W b fb) : VT C X W (.Compare a [.Gt] [b] pos) (tBl (eBin gGt fa fb)) := vt_cmp op_gt srv_gt ha hb (nomark _)
theorem n_ge (ha : VE C X W a fa) (hb : VE C X W b fb) : VE C X W (.Compare a [.GtE] [b] pos) (eBin gGe fa fb) := ve_cmp op_ge srv_ge ha hb (nomark _)
theorem t_ge (ha : VE C X W a fa) (hb : VE C X W b fb) : VT C X W (.Compare a [.GtE] [b] pos) (tBl (eBin gGe fa fb)) := vt_cmp op_ge srv_ge ha hb (nomark _)
theorem n_eq (hu : X.A.units + 65 < cLine) (ha : VE C X W a fa) (hb : VE C X W b fb) : VE C X W (.Compare a [.Eq] [b] pos) (eBin gEq fa fb) := ve_cmp (op_eqD (Nat.lt_of_succ_lt hu)) srv_eq ha hb (nomark _)
theorem t_eq (hu : X.A.units + 65 < cLine) (ha : VE C X W a fa) (hb : VE C X W b fb) : VT C X W (.Compare a [.Eq] [b] pos) (tBl (eBin gEq fa fb)) := vt_cmp (op_eqD (Nat.lt_of_succ_lt hu)) srv_eq ha hb (nomark _)
theorem n_ne (hu : X.A.units + 65 < cLine) (ha : VE C X W a fa) (hb : VE C X W b fb) : VE C X W (.Compare a [.NotEq] [b] pos) (eBin gNe fa fb) := ve_cmp (op_neD (Nat.lt_of_succ_lt hu)) srv_ne ha hb (nomark _)
theorem t_ne (hu : X.A.units + 65 < cLine) (ha : VE C X W a fa) (hb : VE C X W b fb) : VT C X W (.Compare a [.NotEq] [b] pos) (tBl (eBin gNe fa fb)) := vt_cmp (op_neD (Nat.lt_of_succ_lt hu)) srv_ne ha hb (nomark _)
theorem n_is (ha : VE C X W a fa) (hb : VE C X W b fb) : VE C X W (.Compare a [.Is] [b] pos) (eBin gIsN fa fb) := ve_cmp op_isN srv_isN ha hb (nomark _)
theorem t_is (ha : VE C X W a fa) (hb : VE C X W b fb) : VT C X W (.Compare a [.Is] [b] pos) (tBl (eBin gIsN fa fb)) := vt_cmp op_isN srv_isN ha hb (nomark _)
theorem n_isnot (ha : VE C X W a fa) (hb : VE C X W b fb) : VE C X W (.Compare a [.IsNot] [b] pos) (eBin gNotN fa fb) := ve_cmp op_notN srv_notN ha hb (nomark _)
theorem t_isnot (ha : VE C X W a fa) (hb : VE C X W b fb) : VT C X W (.Compare a [.IsNot] [b] pos) (tBl (eBin gNotN fa fb)) := vt_cmp op_notN srv_notN ha hb (nomark _)
theorem n_in (hu : X.A.units + 65 < cLine) (ha : VE C X W a fa) (hb : VE C X W b fb) (hm : behindInMarks .In b = false := by rfl) : VE C X W (.Compare a [.In] [b] pos) (eBin gIn fa fb) := ve_cmp (op_inA hu) srv_in ha hb hm
theorem t_in (hu : X.A.units + 65 < cLine) (ha : VE C X W a fa) (hb : VE C X W b fb) (hm : behindInMarks .In b = false := by rfl) : VT C X W (.Compare a [.In] [b] pos) (tBl (eBin gIn fa fb)) := vt_cmp (op_inA hu) srv_in ha hb hm
theorem n_notin (hu : X.A.units + 65 < cLine) (ha : VE C X W a fa) (hb : VE C X W b fb) (hm : behindInMarks .NotIn b = false := by rfl) : VE C X W (.Compare a [.NotIn] [b] pos) (eBin gNotIn fa fb) := ve_cmp (op_notInA hu) srv_notIn ha hb hm
theorem t_notin (hu : X.A.units + 65 < cLine) (ha : VE C X W a fa) (hb : VE C X W b fb) (hm : behindInMarks .NotIn b = false := by rfl) : VT C X W (.Compare a [.NotIn] [b] pos) (tBl (eBin gNotIn fa fb)) := vt_cmp (op_notInA hu) srv_notIn ha hb hm
theorem n_neg (ha : VE C X W a fa) : VE C X W (.UnaryOp .USub a pos) (eUn gNeg fa) := ve_un un_neg srv_neg ha
theorem n_ix (ha : VE C X W a fa) (hb : VE C X W b fb) (hp : PlainIx b := by intro _ _; rfl) : VE C X W (.Subscript a b pos) (eBin gIx fa fb) := ve_ix ix_seq srv_ix ha hb hp
theorem c_len (hm : X.mg "len" = none) (ha : VA C X W [a] fA) (hg : Gl X "len" := by rfl) (hs : starEach [a] X.env = (false, eval a X.env) :: starEach [] X.env := by rfl) (hpl : (backTo pos (starEach [] X.env)).any (·.1) = false := by rfl) : VE C X W (.Call (.Name "len" p) [a] [] pos) (eCall gLen fA) := ve_callB (r := _) call_len srv_len hg hm (by decide +kernel) ha (by decide) (by decide) hs hpl
theorem c_sum (hc : X.calm = true) (hm : X.mg "sum" = none) (ha : VA C X W [a] fA) (hg : Gl X "sum" := by rfl) (hs : starEach [a] X.env = (false, eval a X.env) :: starEach [] X.env := by rfl) (hpl : (backTo pos (starEach [] X.env)).any (·.1) = false := by rfl) : VE C X W (.Call (.Name "sum" p) [a] [] pos) (eCall gSum fA) := ve_callB (r := _) (cr_sum hc) srv_sum hg hm (by decide +kernel) ha (by decide) (by decide) hs hpl
theorem c_all (hc : X.calm = true) (hm : X.mg "all" = none) (ha : VA C X W [a] fA) (hg : Gl X "all" := by rfl) (hs : starEach [a] X.env = (false, eval a X.env) :: starEach [] X.env := by rfl) (hpl : (backTo pos (starEach [] X.env)).any (·.1) = false := by rfl) : VE C X W (.Call (.Name "all" p) [a] [] pos) (eCall gAll fA) := ve_callB (r := _) (cr_all hc) srv_all hg hm (by decide +kernel) ha (by decide) (by decide) hs hpl
theorem c_any (hc : X.calm = true) (hm : X.mg "any" = none) (ha : VA C X W [a] fA) (hg : Gl X "any" := by rfl) (hs : starEach [a] X.env = (false, eval a X.env) :: starEach [] X.env := by rfl) (hpl : (backTo pos (starEach [] X.env)).any (·.1) = false := by rfl) : VE C X W (.Call (.Name "any" p) [a] [] pos) (eCall gAny fA) := ve_callB (r := _) (cr_any hc) srv_any hg hm (by decide +kernel) ha (by decide) (by decide) hs hpl
theorem c_abs (hm : X.mg "abs" = none) (ha : VA C X W [a] fA) (hg : Gl X "abs" := by rfl) (hs : starEach [a] X.env = (false, eval a X.env) :: starEach [] X.env := by rfl) (hpl : (backTo pos (starEach [] X.env)).any (·.1) = false := by rfl) : VE C X W (.Call (.Name "abs" p) [a] [] pos) (eCall gAbs fA) := ve_callB (r := _) call_abs srv_abs hg hm (by decide +kernel) ha (by decide) (by decide) hs hpl
theorem c_int (hm : X.mg "int" = none) (ha : VA C X W [a] fA) (hg : Gl X "int" := by rfl) (hs : starEach [a] X.env = (false, eval a X.env) :: starEach [] X.env := by rfl) (hpl : (backTo pos (starEach [] X.env)).any (·.1) = false := by rfl) : VE C X W (.Call (.Name "int" p) [a] [] pos) (eCall gInt fA) := ve_callTy (r := _) call_int1 srv_int hg hm (by decide +kernel) ha (by decide) (by decide) hs hpl
theorem c_list (hm : X.mg "list" = none) (ha : VA C X W [a] fA) (hg : Gl X "list" := by rfl) (hs : starEach [a] X.env = (false, eval a X.env) :: starEach [] X.env := by rfl) (hpl : (backTo pos (starEach [] X.env)).any (·.1) = false := by rfl) : VE C X W (.Call (.Name "list" p) [a] [] pos) (eCall gList fA) := ve_callTy (r := _) call_list_of srv_list hg hm (by decide +kernel) ha (by decide) (by decide) hs hpl
theorem c_tuple (hm : X.mg "tuple" = none) (ha : VA C X W [a] fA) (hg : Gl X "tuple" := by rfl) (hs : starEach [a] X.env = (false, eval a X.env) :: starEach [] X.env := by rfl) (hpl : (backTo pos (starEach [] X.env)).any (·.1) = false := by rfl) : VE C X W (.Call (.Name "tuple" p) [a] [] pos) (eCall gTuple fA) := ve_callTy (r := _) call_tuple_of srv_tuple hg hm (by decide +kernel) ha (by decide) (by decide) hs hpl
theorem c_max (hc : X.calm = true) (hm : X.mg "max" = none) (ha : VA C X W [a] fA) (hg : Gl X "max" := by rfl) (hs : starEach [a] X.env = (false, eval a X.env) :: starEach [] X.env := by rfl) (hpl : (backTo pos (starEach [] X.env)).any (·.1) = false := by rfl) : VE C X W (.Call (.Name "max" p) [a] [] pos) (eCall gMax fA) := ve_callB (r := _) (cr_max hc) srv_max hg hm (by decide +kernel) ha (by decide) (by decide) hs hpl
theorem c_min (hc : X.calm = true) (hm : X.mg "min" = none) (ha : VA C X W [a] fA) (hg : Gl X "min" := by rfl) (hs : starEach [a] X.env = (false, eval a X.env) :: starEach [] X.env := by rfl) (hpl : (backTo pos (starEach [] X.env)).any (·.1) = false := by rfl) : VE C X W (.Call (.Name "min" p) [a] [] pos) (eCall gMin fA) := ve_callB (r := _) (cr_min hc) srv_min hg hm (by decide +kernel) ha (by decide) (by decide) hs hpl
theorem c_sorted (hu : X.A.units + 65 < cLine) (hm : X.mg "sorted" = none) (ha : VA C X W [a] fA) (hg : Gl X "sorted" := by rfl) (hs : starEach [a] X.env = (false, eval a X.env) :: starEach [] X.env := by rfl) (hpl : (backTo pos (starEach [] X.env)).any (·.1) = false := by rfl) : VE C X W (.Call (.Name "sorted" p) [a] [] pos) (eCall (gSorted false) fA) := ve_callB (r := _) (cr_srt (Nat.lt_of_succ_lt hu)) srv_sorted hg hm (by decide +kernel) ha (by decide) (by decide) hs hpl
theorem c_max2 (hc : X.calm = true) (hm : X.mg "max" = none) (ha : VA C X W [a, b] fA) (hg : Gl X "max" := by rfl) (hs : starEach [a, b] X.env = (false, eval a X.env) :: starEach [b] X.env := by rfl) (hpl : (backTo pos (starEach [b] X.env)).any (·.1) = false := by rfl) : VE C X W (.Call (.Name "max" p) [a, b] [] pos) (eCall gMax2 fA) := ve_callB (call_max2 hc) srv_max2 hg hm (by decide +kernel) ha (by decide) (by decide) hs hpl
theorem c_min2 (hc : X.calm = true) (hm : X.mg "min" = none) (ha : VA C X W [a, b] fA) (hg : Gl X "min" := by rfl) (hs : starEach [a, b] X.env = (false, eval a X.env) :: starEach [b] X.env := by rfl) (hpl : (backTo pos (starEach [b] X.env)).any (·.1) = false := by rfl) : VE C X W (.Call (.Name "min" p) [a, b] [] pos) (eCall gMin2 fA) := ve_callB (call_min2 hc) srv_min2 hg hm (by decide +kernel) ha (by decide) (by decide) hs hpl
theorem m_app {o : Expr} {fo : Ex} {apos cpos : Pos} (ho : VE C X W o fo) (ha : VA C X W [a] fA)
    (hat : attributeBase o "append" X.env (eval o X.env) = eval o X.env := by rfl) (hb : ((backTo cpos (starEach [a] X.env)).all (!·.1) && (backToKw cpos (keywordEach [] X.env)).all (·.1.isSome) && decide ([a].length + ([] : List Keyword).length + (if ([] : List Keyword).isEmpty = true then 0 else 1) < 30)) = true := by rfl)
    (hp : (apos.endLine == cpos.line) = true := by rfl) (hs : starEach [a] X.env = (false, eval a X.env) :: starEach [] X.env := by rfl) (hpl2 : (backTo cpos (starEach [] X.env)).any (·.1) = false := by rfl) : VE C X W (.Call (.Attribute o "append" apos) [a] [] cpos) (eMeth "list" gApp fo fA) :=
  ve_meth PySem.F.plainAttrs_list PySem.F.slot_list_append PySem.F.type_list_append mt_append srv_app (by decide) ho ha hat hb hp hs hpl2
theorem m_pop {o : Expr} {fo : Ex} {apos cpos : Pos} (ho : VE C X W o fo)
    (hat : attributeBase o "pop" X.env (eval o X.env) = eval o X.env := by rfl) (hp : (apos.endLine == cpos.line) = true := by rfl) : VE C X W (.Call (.Attribute o "pop" apos) [] [] cpos) (eMeth0 "list" gPop fo) :=
  ve_meth0 PySem.F.plainAttrs_list PySem.F.slot_list_pop PySem.F.type_list_pop mt_pop srv_pop (by decide) ho hat hp

/-- one of our own defs, as callers use it -/
structure OwnD (P : Program) (w : World) (K : PySem.W.Frag) (mg : Str → Option Value) (base : Heap) (C : Str → Addr) (x : Str) (k : Nat) (m : Fn) : Prop where
  ex : ∃ (f : Addr) (fd : FuncData) (ps : List Str), FnOk P w K mg base (L2.CX P w) k f fd ps (FSp ⟨P, w, K, C⟩ m) ∧ mg x = some (.ref f) ∧ PySem.W.keepIn K (.ref f) = true ∧ Binds K fd ps []
theorem n_own {es : List Expr} {x : Str} {m : Fn} {k : Nat} (D : OwnD X.prog X.w X.K X.mg X.base C x k m) (hr : Room k X.A) (tk : Takes X W) (ha : VA C X W (a :: es) fA) (hg : Gl X x := by rfl)
    (hdb : (x == ("__debug__" : Str)) = false := by decide) (he : starEach (a :: es) X.env = (false, eval a X.env) :: starEach es X.env := by rfl) (hpl : (backTo pos (starEach es X.env)).any (·.1) = false := by rfl) :
    VE C X W (.Call (.Name x p) (a :: es) [] pos) (eOwn m fA) := by
  obtain ⟨f, fd, ps, h1, h2, h3, h4⟩ := D.ex
  exact ve_own h1 hr hg h2 h3 h4 tk ha hdb he hpl
theorem units65 {k : Nat} {A : Around} (r : Room k A) : A.units + 65 < cLine := by have := r.un; omega

end
end Fw
set_option Elab.async false
set_option linter.all false
set_option maxRecDepth 100000
set_option maxHeartbeats 1000000
/-! isinstance's answers of the built-in classes; fuel; a global constant. -/
namespace Fw
open PySem PySem.Spec PyProof.Rows L2
theorem kit_bool {K : PySem.W.Frag} : kitT K "bool" := by
  intro t ht
  simp only [List.mem_cons, List.not_mem_nil, or_false] at ht
  rcases ht with rfl | rfl | rfl | rfl | rfl | rfl <;> kernel_rfl!
theorem kit_int {K : PySem.W.Frag} : kitT K "int" := by
  intro t ht
  simp only [List.mem_cons, List.not_mem_nil, or_false] at ht
  rcases ht with rfl | rfl | rfl | rfl | rfl | rfl <;> kernel_rfl!
theorem kit_str {K : PySem.W.Frag} : kitT K "str" := by
  intro t ht
  simp only [List.mem_cons, List.not_mem_nil, or_false] at ht
  rcases ht with rfl | rfl | rfl | rfl | rfl | rfl <;> kernel_rfl!
theorem kit_tuple {K : PySem.W.Frag} : kitT K "tuple" := by
  intro t ht
  simp only [List.mem_cons, List.not_mem_nil, or_false] at ht
  rcases ht with rfl | rfl | rfl | rfl | rfl | rfl <;> kernel_rfl!
theorem kit_list {K : PySem.W.Frag} : kitT K "list" := by
  intro t ht
  simp only [List.mem_cons, List.not_mem_nil, or_false] at ht
  rcases ht with rfl | rfl | rfl | rfl | rfl | rfl <;> kernel_rfl!
def fuel : Nat := 1000000
theorem cx_false {P : Program} {w : World} {H : Hp} {s s' : Shared} {e : Value} (h : L2.CX P w [] H s (fun _ _ _ => False) e s') : False := by
  obtain ⟨_, _, _, _, _, _, _, _, _, _, _, _, z⟩ := h
  exact z
/-- the law's promise, from what its mirror computes -/
theorem law_sp {P : Program} {w : World} {K : PySem.W.Frag} {C : Str → Addr} {m : Fn} {H : Hp} {a : Addr} {ns : List Int} (h : ∃ e, m [.fz (.lst (ns.map .int))] = .ok (.fz (.bl true), e)) (hS : SqL K H a (ns.map V.int)) :
    FSp ⟨P, w, K, C⟩ m [.ref a] H (fun v _ => v = .bl true) (fun _ _ _ => False) := by
  obtain ⟨e, h⟩ := h
  refine ⟨H, [.fz (.lst (ns.map .int))], fun _ => 0, ⟨.ref a, [], fun _ => 0, fun _ => 0, rfl, ⟨⟨a, _, rfl, hS, ints_rp ns⟩, fun _ => rfl⟩, ⟨rfl, fun _ => rfl⟩, fun _ => rfl⟩, ⟨Same.refl H, fun _ => Nat.zero_le _, fun a h => absurd rfl h, fun a h => absurd rfl h⟩, ?_⟩
  rw [h]
  exact fun v R' H' g k r1 _ _ _ => r1.1
end Fw
set_option Elab.async false
set_option linter.all false
set_option maxRecDepth 100000
set_option maxHeartbeats 1000000
/-! Loops and comprehensions of the mirrors; data of ints; what equality and membership say of them. -/
namespace Fw
open PySem PySem.Spec PyProof.Rows L2
/-! ### lists of ints, tuples of ints, lists of these -/
def Dr (L : List Int) : Sv := .lst (L.map fun i => .fz (.int i))
abbrev T (ns : List Int) : Dt := .tup (ns.map .int)
abbrev LT (xs : List (List Int)) : Dt := .lst (xs.map T)
def DT (xs : List (List Int)) : Sv := .lst (xs.map fun x => .fz (T x))
theorem allFz_map : ∀ ds : List Dt, allFz (ds.map .fz) = some ds
  | [] => rfl
  | d :: ds => by rw [List.map_cons, allFz, allFz_map ds]; rfl
@[simp] theorem allFz_ints (L : List Int) : allFz (L.map fun i => .fz (.int i)) = some (L.map .int) := by
  have := allFz_map (L.map .int)
  rw [List.map_map] at this
  exact this
@[simp] theorem allFz_T (L : List (List Int)) : allFz (L.map fun i => .fz (.tup (i.map .int))) = some (L.map T) := by
  have := allFz_map (L.map T)
  rw [List.map_map] at this
  exact this
@[simp] theorem allFz_bls (L : List Bool) : allFz (L.map fun i => .fz (.bl i)) = some (L.map .bl) := by
  have := allFz_map (L.map .bl)
  rw [List.map_map] at this
  exact this
@[simp] theorem intsOf_map : ∀ L : List Int, intsOf (L.map .int) = some L
  | [] => rfl
  | d :: ds => by rw [List.map_cons, intsOf, intsOf_map ds]; rfl
@[simp] theorem blsOf_map : ∀ L : List Bool, blsOf (L.map .bl) = some L
  | [] => rfl
  | d :: ds => by rw [List.map_cons, blsOf, blsOf_map ds]; rfl
theorem Dt.int_inj : Function.Injective Dt.int := fun _ _ h => Dt.int.inj h
theorem pys_ints (ns : List Int) : pys (ns.map .int) = ns.map .int := by rw [pys_map, List.map_map]; rfl
theorem pys_T (xs : List (List Int)) : pys (xs.map T) = xs.map fun x => .tuple (x.map .int) := by
  rw [pys_map, List.map_map]
  apply List.map_congr_left
  intro x _
  show PyData.tuple (pys (x.map .int)) = _
  rw [pys_ints]
theorem lay_ints (ns : List Int) : PyData.canLayAll0 (ns.map .int) = true := by
  induction ns with
  | nil => rfl
  | cons n ns ih => rw [List.map_cons, PyData.canLayAll0, ih]; rfl
theorem depth_ints : ∀ ns : List Int, PyData.depthAll (ns.map .int) ≤ 1
  | [] => Nat.zero_le _
  | n :: ns => by rw [List.map_cons, PyData.depthAll]; exact Nat.max_le.mpr ⟨by rw [PyData.depth]; decide, depth_ints ns⟩
theorem lay_T : ∀ xs : List (List Int), PyData.canLayAll0 (xs.map fun x => PyData.tuple (x.map .int)) = true
  | [] => rfl
  | x :: xs => by
    rw [List.map_cons, PyData.canLayAll0, lay_T xs, PyData.canLay0, lay_ints]
    rfl
theorem depth_T : ∀ xs : List (List Int), PyData.depthAll (xs.map fun x => PyData.tuple (x.map .int)) ≤ 2
  | [] => Nat.zero_le _
  | x :: xs => by
    rw [List.map_cons, PyData.depthAll, PyData.depth]
    have := depth_ints x
    exact Nat.max_le.mpr ⟨by omega, depth_T xs⟩
@[simp] theorem ok_int (i : Int) : okD (.int i) = true := by unfold okD; rfl
@[simp] theorem ok_bl (i : Bool) : okD (.bl i) = true := by unfold okD; rfl
@[simp] theorem ok_T (ns : List Int) : okD (.tup (ns.map .int)) = true := by
  unfold okD Dt.py SeqAt.shaped
  rw [pys_ints, PyData.canLay0, lay_ints, PyData.depth]
  have := depth_ints ns
  simp
  omega
@[simp] theorem ok_LT (xs : List (List Int)) : okD (.lst (xs.map T)) = true := by
  unfold okD Dt.py SeqAt.shaped
  rw [pys_T, PyData.canLay0, lay_T, PyData.depth]
  have := depth_T xs
  simp
  omega
@[simp] theorem ok_LI (xs : List Int) : okD (.lst (xs.map .int)) = true := by
  unfold okD Dt.py SeqAt.shaped
  rw [pys_ints, PyData.canLay0, lay_ints, PyData.depth]
  have := depth_ints xs
  simp
  omega
@[simp] theorem ok_nil : okD (.lst []) = true := by unfold okD; rfl
@[simp] theorem ok_tnil : okD (.tup []) = true := by unfold okD; rfl
theorem eqv_ints : ∀ a b : List Int, PyData.eqvAll (a.map .int) (b.map .int) = decide (a = b)
  | [], [] => rfl
  | [], _ :: _ => rfl
  | _ :: _, [] => rfl
  | x :: a, y :: b => by
    rw [List.map_cons, List.map_cons, PyData.eqvAll, eqv_ints a b, PyData.eqv]
    by_cases h : x = y <;> simp [h]
theorem eqv_T : ∀ a b : List (List Int), PyData.eqvAll (a.map fun x => PyData.tuple (x.map .int)) (b.map fun x => PyData.tuple (x.map .int)) = decide (a = b)
  | [], [] => rfl
  | [], _ :: _ => rfl
  | _ :: _, [] => rfl
  | x :: a, y :: b => by
    rw [List.map_cons, List.map_cons, PyData.eqvAll, eqv_T a b, PyData.eqv, eqv_ints]
    by_cases h : x = y <;> simp [h]
@[simp] theorem eq_int (i j : Int) : eqD (.int i) (.int j) = some (decide (i = j)) := by
  unfold eqD
  simp [Dt.py, PyData.eqv]
  exact (by by_cases h : i = j <;> simp [h] : (i == j) = decide (i = j))
@[simp] theorem ne_int (i j : Int) : neD (.int i) (.int j) = some (!decide (i = j)) := by
  unfold neD
  simp only [ok_int, Bool.and_self, if_true, Dt.py, PyData.eqv]
  exact congrArg (fun b => some (!b)) (by by_cases h : i = j <;> simp [h] : (i == j) = decide (i = j))
@[simp] theorem eq_bl (i j : Bool) : eqD (.bl i) (.bl j) = some (i == j) := by
  unfold eqD
  simp [Dt.py, PyData.eqv]
@[simp] theorem ne_bl (i j : Bool) : neD (.bl i) (.bl j) = some (!(i == j)) := by
  unfold neD
  simp [Dt.py, PyData.eqv]
@[simp] theorem eq_T (a b : List Int) : eqD (.tup (a.map .int)) (.tup (b.map .int)) = some (decide (a = b)) := by
  unfold eqD
  simp [Dt.py, PyData.eqv, pys_ints, eqv_ints]
@[simp] theorem ne_T (a b : List Int) : neD (.tup (a.map .int)) (.tup (b.map .int)) = some (!decide (a = b)) := by
  unfold neD
  simp [Dt.py, PyData.eqv, pys_ints, eqv_ints]
@[simp] theorem eq_LT (a b : List (List Int)) : eqD (.lst (a.map T)) (.lst (b.map T)) = some (decide (a = b)) := by
  unfold eqD
  simp only [ok_LT, Bool.and_self, if_true, Dt.py, PyData.eqv, pys_T, eqv_T]
@[simp] theorem ne_LT (a b : List (List Int)) : neD (.lst (a.map T)) (.lst (b.map T)) = some (!decide (a = b)) := by
  unfold neD
  simp only [ok_LT, Bool.and_self, if_true, Dt.py, PyData.eqv, pys_T, eqv_T]
@[simp] theorem ne_LTnil (a : List (List Int)) : neD (.lst (a.map T)) (.lst []) = some (!decide (a = [])) := ne_LT a []
@[simp] theorem in_T (k : Int) (a : List Int) : inD (.int k) (.tup (a.map .int)) = some (decide (k ∈ a)) := by
  unfold inD
  simp only [ok_int, ok_T, Bool.and_self, if_true, pys_ints]
  congr 1
  induction a with
  | nil => rfl
  | cons x a ih =>
    rw [List.map_cons, List.any_cons, ih]
    simp only [Dt.py, PyData.eqv]
    by_cases h : x = k
    · subst h; simp
    · have h2 : ¬ k = x := fun e => h e.symm
      have h3 : (x == k) = false := by simpa using h
      rw [h3]
      simp [h2]
@[simp] theorem in_LI (k : Int) (a : List Int) : inD (.int k) (.lst (a.map .int)) = some (decide (k ∈ a)) := by
  unfold inD
  simp only [ok_int, ok_LI, Bool.and_self, if_true, pys_ints]
  congr 1
  induction a with
  | nil => rfl
  | cons x a ih =>
    rw [List.map_cons, List.any_cons, ih]
    simp only [Dt.py, PyData.eqv]
    by_cases h : x = k
    · subst h; simp
    · have h2 : ¬ k = x := fun e => h e.symm
      have h3 : (x == k) = false := by simpa using h
      rw [h3]
      simp [h2]
@[simp] theorem in_LT (k : List Int) (a : List (List Int)) : inD (.tup (k.map .int)) (.lst (a.map T)) = some (decide (k ∈ a)) := by
  unfold inD
  simp only [ok_T, ok_LT, Bool.and_self, if_true, pys_T]
  congr 1
  induction a with
  | nil => rfl
  | cons x a ih =>
    rw [List.map_cons, List.any_cons, ih]
    simp only [Dt.py, PyData.eqv, pys_ints, eqv_ints]
    by_cases h : x = k
    · subst h; simp
    · have h2 : ¬ k = x := fun e => h e.symm
      simp [h, h2]
theorem small_of {i : Int} (h0 : -1000000000 ≤ i) (h1 : i ≤ 1000000000) : small62 i = true := by
  have e : (2 : Int) ^ 62 = 4611686018427387904 := by decide
  unfold small62
  rw [e]
  exact decide_eq_true ⟨by omega, by omega⟩
/-! ### steps -/
theorem seq_next {a b : Stx} {e e1 : Env} (h : a e = .next e1) : sSeq a b e = b e1 := by unfold sSeq; rw [h]
theorem seq_ret {a b : Stx} {e e1 : Env} {s : Sv} (h : a e = .ret s e1) : sSeq a b e = .ret s e1 := by unfold sSeq; rw [h]
theorem set_next {i : Nat} {f : Ex} {e e1 : Env} {s : Sv} (h : f e = .ok (.v s, e1)) (hi : i < e1.length) : sSet i f e = .next (e1.set i (some s)) := by
  unfold sSet ofE putS
  rw [h]
  simp only
  rw [if_pos hi]
theorem drop_next {f : Ex} {e e1 : Env} {a : Arg} (h : f e = .ok (a, e1)) : sDrop f e = .next e1 := by
  unfold sDrop ofE
  rw [h]
theorem ret_ret {f : Ex} {e e1 : Env} {s : Sv} (h : f e = .ok (.v s, e1)) : sRet f e = .ret s e1 := by
  unfold sRet ofE
  rw [h]
theorem if_t {t : Tx} {a b : Stx} {e e1 : Env} (h : t e = .ok (true, e1)) : sIf t a b e = a e1 := by
  unfold sIf
  rw [h]
  rfl
theorem if_f {t : Tx} {a b : Stx} {e e1 : Env} (h : t e = .ok (false, e1)) : sIf t a b e = b e1 := by
  unfold sIf
  rw [h]
  rfl
theorem bl_ok {f : Ex} {e e1 : Env} {b : Bool} (h : f e = .ok (.v (.fz (.bl b)), e1)) : tBl f e = .ok (b, e1) := by
  unfold tBl
  rw [h]
  rfl
theorem of_bl {f : Ex} {e e1 : Env} {b : Bool} (h : f e = .ok (.v (.fz (.bl b)), e1)) : tOf f e = .ok (b, e1) := by
  unfold tOf
  rw [h]
  rfl
theorem not_ok {t : Tx} {e e1 : Env} {b : Bool} (h : t e = .ok (b, e1)) : tNotX t e = .ok (!b, e1) := by
  unfold tNotX
  rw [h]
  rfl
theorem bin_ok {g : Bf} {fa fb : Ex} {e e1 e2 e3 : Env} {a b : Arg} {ss ss' : List Sv} {s : Sv} (h1 : fa e = .ok (a, e1)) (h2 : fb e1 = .ok (b, e2)) (h3 : takeA [a, b] e2 = some (ss, e3)) (h4 : g ss = some (s, ss')) (h5 : ss'.length = ss.length) : eBin g fa fb e = .ok (.v s, putA [a, b] (ss'.map some) e3) := by
  unfold eBin finA
  rw [h1]
  simp only [Res.bind]
  rw [h2]
  simp only [Res.bind]
  rw [h3]
  simp only
  rw [h4]
  simp only
  rw [if_pos h5]
theorem call_ok {g : Bf} {fa : Ax} {e e1 e2 : Env} {as : List Arg} {ss ss' : List Sv} {s : Sv} (h1 : fa e = .ok (as, e1)) (h3 : takeA as e1 = some (ss, e2)) (h4 : g ss = some (s, ss')) (h5 : ss'.length = ss.length) : eCall g fa e = .ok (.v s, putA as (ss'.map some) e2) := by
  unfold eCall finA
  rw [h1]
  simp only [Res.bind]
  rw [h3]
  simp only
  rw [h4]
  simp only
  rw [if_pos h5]
theorem own_ok {m : Fn} {fa : Ax} {e e1 e2 : Env} {as : List Arg} {ss : List Sv} {s : Sv} {oo : Env} (h1 : fa e = .ok (as, e1)) (h2 : takeA as e1 = some (ss, e2)) (h3 : m ss = .ok (s, oo)) : eOwn m fa e = .ok (.v s, putA as oo e2) := by
  unfold eOwn finF
  rw [h1]
  simp only [Res.bind]
  rw [h2]
  simp only
  rw [h3]
theorem fz_ok {f : Ex} {e e1 : Env} {s : Sv} (h : f e = .ok (.v s, e1)) : eFz f e = .ok (.v (.fz s.frz), e1) := by
  unfold eFz
  rw [h]
  rfl
theorem cons_ok {f : Ex} {g : Ax} {e e1 e2 : Env} {a : Arg} {as : List Arg} (h : f e = .ok (a, e1)) (h2 : g e1 = .ok (as, e2)) : aCons f g e = .ok (a :: as, e2) := by
  unfold aCons
  rw [h]
  simp only [Res.bind]
  rw [h2]
theorem one_ok {f : Ex} {e e1 : Env} {a : Arg} (h : f e = .ok (a, e1)) : aOne f e = .ok ([a], e1) := cons_ok h rfl
theorem for_next {fA : Ax} {gI : List Sv → Option (List Dt)} {P' : List Bool} {g : Tgt} {body : Stx} {e e1 e2 e3 : Env} {as : List Arg} {ss : List Sv} {items : List Dt} (h1 : fA e = .ok (as, e1)) (h2 : takeA as e1 = some (ss, e2)) (h3 : gI ss = some items) (h4 : refsIn P' as = true)
    (h5 : forL g body items e2 = .next e3) : sFor fA gI P' g body e = .next (putA as (ss.map some) e3) := by
  unfold sFor
  rw [h1]
  simp only
  rw [h2]
  simp only
  rw [h3]
  simp only
  rw [if_pos h4, h5]
  rfl
theorem for_ret {fA : Ax} {gI : List Sv → Option (List Dt)} {P' : List Bool} {g : Tgt} {body : Stx} {e e1 e2 e3 : Env} {as : List Arg} {ss : List Sv} {items : List Dt} {s : Sv} (h1 : fA e = .ok (as, e1)) (h2 : takeA as e1 = some (ss, e2)) (h3 : gI ss = some items) (h4 : refsIn P' as = true)
    (h5 : forL g body items e2 = .ret s e3) : sFor fA gI P' g body e = .ret s (putA as (ss.map some) e3) := by
  unfold sFor
  rw [h1]
  simp only
  rw [h2]
  simp only
  rw [h3]
  simp only
  rw [if_pos h4, h5]
  rfl
theorem lc_ok {fA : Ax} {gI : List Sv → Option (List Dt)} {own : List Nat} {g : Tgt} {t : Tx} {elt : Ex} {e e1 e2 e3 : Env} {as : List Arg} {ss out : List Sv} {items : List Dt} (h1 : fA e = .ok (as, e1)) (h2 : takeA as e1 = some (ss, e2)) (h3 : gI ss = some items)
    (h4 : compL g t elt own items (wipeE e2 own) = .ok (out, e3)) (h5 : out.length ≤ 1000000) : eLc fA gI own g t elt e = .ok (.v (.lst out), putA as (ss.map some) (restE e2 (wipeE e3 own) own)) := by
  unfold eLc
  rw [h1]
  simp only
  rw [h2]
  simp only
  rw [h3]
  simp only
  rw [h4]
  simp only
  rw [if_pos (Nat.le_trans h5 (by decide))]
theorem fn_ret {n : Nat} {P : List Bool} {f : Stx} {ss : List Sv} {e e1 : Env} {s : Sv} (hl : ss.length = P.length) (he : ss.map some ++ List.replicate (n - ss.length) none = e) (h : f e = .ret s e1) : fnSem n P f ss = .ok (s, maskE P e1) := by
  unfold fnSem
  rw [if_pos hl, he, h]
/-! ### loops -/
theorem forL_inv (P : Env → Prop) {g : Tgt} {body : Stx} : ∀ {ds : List Dt} {e : Env}, (∀ d ∈ ds, ∀ e, P e → ∃ e1, g d e = some e1 ∧ ∃ e2, body e1 = .next e2 ∧ P e2) → P e → ∃ e2, forL g body ds e = .next e2 ∧ P e2
  | [], e, _, h0 => ⟨e, rfl, h0⟩
  | d :: ds, e, h, h0 => by
    obtain ⟨e1, h1, e2, h2, h3⟩ := h d List.mem_cons_self e h0
    obtain ⟨e3, h4, h5⟩ := forL_inv P (g := g) (body := body) (ds := ds) (e := e2) (fun d hd => h d (List.mem_cons_of_mem _ hd)) h3
    exact ⟨e3, by rw [forL, h1]; simp only [h2]; exact h4, h5⟩
/-- the items counted -/
theorem forL_ix (P : Nat → Env → Prop) {g : Tgt} {body : Stx} {ds : List Dt} {e : Env} (h : ∀ (i : Nat) (d : Dt), ds[i]? = some d → ∀ e, P i e → ∃ e1, g d e = some e1 ∧ ∃ e2, body e1 = .next e2 ∧ P (i + 1) e2) (h0 : P 0 e) : ∃ e2, forL g body ds e = .next e2 ∧ P ds.length e2 := by
  induction ds generalizing P e with
  | nil => exact ⟨e, rfl, h0⟩
  | cons d ds ih =>
    obtain ⟨e1, h1, e2, h2, h3⟩ := h 0 d rfl e h0
    obtain ⟨e3, h4, h5⟩ := ih (fun i => P (i + 1)) (fun i d hd => h (i + 1) d hd) h3
    exact ⟨e3, by rw [forL, h1]; simp only [h2]; exact h4, h5⟩
/-- a comprehension without an end of its own: the slots stand as they stood -/
theorem compL_map {g : Tgt} {t : Tx} {elt : Ex} {own : List Nat} {e : Env} (p : Dt → Bool) (v : Dt → Sv) : ∀ {ds : List Dt},
    (∀ d ∈ ds, ∃ e1, g d e = some e1 ∧ ∃ e2, t e1 = .ok (p d, e2) ∧ (p d = false → wipeE e2 own = e) ∧ (p d = true → ∃ e3, elt e2 = .ok (.v (v d), e3) ∧ wipeE e3 own = e)) →
    compL g t elt own ds e = .ok ((ds.filter p).map v, e)
  | [], _ => rfl
  | d :: ds, h => by
    obtain ⟨e1, h1, e2, h2, h3, h4⟩ := h d List.mem_cons_self
    have ih := compL_map (g := g) (t := t) (elt := elt) (own := own) (e := e) p v (ds := ds) fun d hd => h d (List.mem_cons_of_mem _ hd)
    rw [compL, h1]
    simp only [h2]
    cases hp : p d with
    | false =>
      rw [List.filter_cons_of_neg (by rw [hp]; exact Bool.false_ne_true)]
      simp only [Bool.false_eq_true, if_false]
      rw [h3 hp, ih]
    | true =>
      obtain ⟨e3, h5, h6⟩ := h4 hp
      rw [List.filter_cons_of_pos hp]
      simp only [if_true, h5, h6, ih]
      rfl
/-- one that changes slots: P -/
theorem compL_inv (P : Env → Prop) {g : Tgt} {t : Tx} {elt : Ex} {own : List Nat} (v : Dt → Sv) : ∀ {ds : List Dt} {e : Env}, P e →
    (∀ d ∈ ds, ∀ e, P e → ∃ e1, g d e = some e1 ∧ ∃ b e2, t e1 = .ok (b, e2) ∧ (b = false → P (wipeE e2 own)) ∧ (b = true → ∃ e3, elt e2 = .ok (.v (v d), e3) ∧ P (wipeE e3 own))) →
    ∃ (sub : List Dt) (e' : Env), compL g t elt own ds e = .ok (sub.map v, e') ∧ P e' ∧ sub.Sublist ds
  | [], e, h0, _ => ⟨[], e, rfl, h0, List.Sublist.slnil⟩
  | d :: ds, e, h0, h => by
    obtain ⟨e1, h1, b, e2, h2, h3, h4⟩ := h d List.mem_cons_self e h0
    rw [compL, h1]
    simp only [h2]
    cases b with
    | false =>
      obtain ⟨sub, e', q1, q2, q3⟩ := compL_inv P (g := g) (t := t) (elt := elt) (own := own) v (h3 rfl) fun d hd => h d (List.mem_cons_of_mem _ hd)
      exact ⟨sub, e', by simpa using q1, q2, q3.cons _⟩
    | true =>
      obtain ⟨e3, h5, h6⟩ := h4 rfl
      obtain ⟨sub, e', q1, q2, q3⟩ := compL_inv P (g := g) (t := t) (elt := elt) (own := own) v h6 fun d hd => h d (List.mem_cons_of_mem _ hd)
      exact ⟨d :: sub, e', by simp only [if_true, h5, q1]; rfl, q2, q3.cons₂ _⟩
end Fw
set_option Elab.async false
set_option linter.all false
set_option maxRecDepth 100000
set_option maxHeartbeats 1000000
/-! sorted of ints, of tuples of ints. -/
namespace Fw
open PySem PySem.Spec PyProof.Rows L2
open PySem.W (dataLe alike alikeAll keyToks)
def leI (rev : Bool) (a b : Int) : Bool := cond rev (decide (b ≤ a)) (decide (a ≤ b))
def srtI (rev : Bool) (L : List Int) : List Int := L.mergeSort (leI rev)
theorem le_ints (rev : Bool) : dataLe rev (fun b : Int => PyData.int b) = leI rev := by
  cases rev with
  | false => exact PySem.W.dataLe_int fun b => b
  | true => exact PySem.W.dataGe_int fun b => b
theorem srtD_ints (rev : Bool) (L : List Int) : srtD rev (L.map .int) = (srtI rev L).map .int := by
  unfold srtD srtI
  rw [PySem.W.sort_maps (r := leI rev) (s := dataLe rev Dt.py) Dt.int fun a _ b _ => ?_]
  show leI rev a b = dataLe rev (fun b : Int => PyData.int b) a b
  rw [le_ints]
theorem sortable_ints (L : List Int) : sortableB (L.map .int) = true := by
  unfold sortableB
  simp only [Bool.and_eq_true, Bool.or_eq_true, List.all_eq_true]
  refine ⟨⟨.inl (.inr fun d hd => ?_), fun d hd e he => ?_⟩, fun d hd => ?_⟩
  · obtain ⟨i, _, rfl⟩ := List.mem_map.mp hd; rfl
  · obtain ⟨i, _, rfl⟩ := List.mem_map.mp hd
    obtain ⟨j, _, rfl⟩ := List.mem_map.mp he
    rfl
  · obtain ⟨i, _, rfl⟩ := List.mem_map.mp hd
    rw [PyData.depth]
    decide
theorem datOf_Dr (L : List Int) : datOf (Dr L) = some (.lst (L.map .int)) := by simp [Dr]
theorem datOf_DT (xs : List (List Int)) : datOf (DT xs) = some (.lst (xs.map T)) := by simp [DT]
theorem sorted_ints (rev : Bool) (L : List Int) : gSorted rev [Dr L] = some (Dr (srtI rev L), [Dr L]) := by
  unfold gSorted keep1
  simp only [datOf_Dr, pys_ints, lay_ints, sortable_ints, Bool.and_self, if_true]
  rw [srtD_ints, List.map_map]
  rfl
def leT (a b : List Int) : Bool := decide (a ≤ b)
def srtT (xs : List (List Int)) : List (List Int) := xs.mergeSort leT
theorem le_T : dataLe false (fun b : List Int => PyData.tuple (b.map .int)) = leT := PySem.W.dataLe_rows fun b => b
theorem srtD_T (xs : List (List Int)) : srtD false (xs.map T) = (srtT xs).map T := by
  unfold srtD srtT
  rw [PySem.W.sort_maps (r := leT) (s := dataLe false Dt.py) T fun a _ b _ => ?_]
  have h : ∀ a : List Int, (T a).py = PyData.tuple (a.map .int) := fun a => by show PyData.tuple (pys (a.map .int)) = _; rw [pys_ints]
  show leT a b = dataLe false Dt.py (T a) (T b)
  rw [← le_T]
  show dataLe false id (PyData.tuple (a.map .int)) (PyData.tuple (b.map .int)) = dataLe false id (T a).py (T b).py
  rw [h, h]
/-- no empty one among several -/
def Srt1 (xs : List (List Int)) : Prop := (∀ x ∈ xs, x ≠ []) ∨ xs.length ≤ 1
theorem alike_ints : ∀ a b : List Int, alikeAll (a.map .int) (b.map .int) = true
  | [], _ => by unfold alikeAll; rfl
  | _ :: _, [] => by unfold alikeAll; rfl
  | x :: a, y :: b => by
    rw [List.map_cons, List.map_cons, alikeAll, alike_ints a b]
    rfl
theorem sortable_T {xs : List (List Int)} (h : Srt1 xs) : sortableB (xs.map fun x => PyData.tuple (x.map .int)) = true := by
  unfold sortableB
  simp only [Bool.and_eq_true, Bool.or_eq_true, List.all_eq_true]
  refine ⟨⟨?_, fun d hd e he => ?_⟩, fun d hd => ?_⟩
  · rcases h with h | h
    · refine .inl (.inl fun d hd => ?_)
      obtain ⟨x, hx, rfl⟩ := List.mem_map.mp hd
      cases x with
      | nil => exact absurd rfl (h [] hx)
      | cons a r => rfl
    · refine .inr ⟨decide_eq_true (by rw [List.length_map]; exact h), fun d hd => ?_⟩
      obtain ⟨x, hx, rfl⟩ := List.mem_map.mp hd
      rfl
  · obtain ⟨i, _, rfl⟩ := List.mem_map.mp hd
    obtain ⟨j, _, rfl⟩ := List.mem_map.mp he
    show alikeAll _ _ = true
    exact alike_ints i j
  · obtain ⟨i, _, rfl⟩ := List.mem_map.mp hd
    rw [PyData.depth]
    have := depth_ints i
    exact decide_eq_true (by omega)
theorem sorted_T {xs : List (List Int)} (h : Srt1 xs) : gSorted false [DT xs] = some (DT (srtT xs), [DT xs]) := by
  unfold gSorted keep1
  simp only [datOf_DT, pys_T, lay_T, sortable_T h, Bool.and_self, if_true]
  rw [srtD_T, List.map_map]
  rfl
/-! the sorted list is one -/
theorem sorted_unique {α : Type} {le : α → α → Prop} (anti : ∀ a b, le a b → le b a → a = b) : ∀ {l m : List α}, l.Pairwise le → m.Pairwise le → l.Perm m → l = m
  | [], m, _, _, p => (List.nil_perm.mp p).symm
  | a :: l, [], _, _, p => nomatch List.perm_nil.mp p
  | a :: l, b :: m, h1, h2, p => by
    obtain ⟨p1, p2⟩ := List.pairwise_cons.mp h1
    obtain ⟨q1, q2⟩ := List.pairwise_cons.mp h2
    have e : a = b := by
      rcases List.mem_cons.mp (p.mem_iff.mp List.mem_cons_self) with e | e
      · exact e
      · rcases List.mem_cons.mp (p.mem_iff.mpr List.mem_cons_self) with e' | e'
        · exact e'.symm
        · exact anti a b (p1 b e') (q1 a e)
    subst e
    rw [sorted_unique anti p2 q2 (List.Perm.cons_inv p)]
theorem srtT_sorted (xs : List (List Int)) : (srtT xs).Pairwise fun a b => a ≤ b := by
  have := List.pairwise_mergeSort (le := leT) (fun a b c h1 h2 => decide_eq_true (List.le_trans (of_decide_eq_true h1) (of_decide_eq_true h2))) (fun a b => by
    rcases List.le_total a b with h | h
    · simp [leT, h]
    · simp [leT, h]) xs
  exact this.imp fun h => of_decide_eq_true h
theorem srtT_perm (xs : List (List Int)) : (srtT xs).Perm xs := List.mergeSort_perm _ _
theorem srtT_eq {xs ys : List (List Int)} (h : xs.Perm ys) : srtT xs = srtT ys := sorted_unique (le := fun a b => a ≤ b) (fun a b h1 h2 => List.le_antisymm h1 h2) (srtT_sorted xs) (srtT_sorted ys) ((srtT_perm xs).trans (h.trans (srtT_perm ys).symm))
theorem srtT_idem (xs : List (List Int)) : srtT (srtT xs) = srtT xs := srtT_eq (srtT_perm xs)
theorem srtI_perm (rev : Bool) (L : List Int) : (srtI rev L).Perm L := List.mergeSort_perm _ _
theorem srtI_up (L : List Int) : (srtI false L).Pairwise (· ≤ ·) := by
  have := List.pairwise_mergeSort (le := leI false) (fun a b c h1 h2 => decide_eq_true (Int.le_trans (of_decide_eq_true h1) (of_decide_eq_true h2))) (fun a b => by
    rcases Int.le_total a b with h | h <;> simp [leI, h]) L
  exact this.imp fun h => of_decide_eq_true h
theorem srtI_down (L : List Int) : (srtI true L).Pairwise (fun a b => b ≤ a) := by
  have := List.pairwise_mergeSort (le := leI true) (fun a b c h1 h2 => decide_eq_true (Int.le_trans (of_decide_eq_true h2) (of_decide_eq_true h1))) (fun a b => by
    rcases Int.le_total a b with h | h <;> simp [leI, h]) L
  exact this.imp fun h => of_decide_eq_true h
theorem Srt1.perm {xs ys : List (List Int)} (h : Srt1 xs) (p : xs.Perm ys) : Srt1 ys := by
  rcases h with h | h
  · exact .inl fun x hx => h x (p.mem_iff.mpr hx)
  · exact .inr (by rw [← p.length_eq]; exact h)
end Fw
set_option Elab.async false
set_option linter.all false
set_option maxRecDepth 100000
set_option maxHeartbeats 400000
namespace K94
open PySem PySem.Spec PyProof.Rows L2 Fw
abbrev top (i : Nat) : Stmt := PySem.Challenge.pw_fewrules_k94_parts_and_meets_of_tuples.main.body.getD i (.Pass ⟨0, 0, 0, 0⟩)
abbrev FnP (K : PySem.W.Frag) (x : Str) (st : Stmt) (f : Addr) (fd : FuncData) : Prop := FunD K x x (defArgs st) (defBody st) (defScope st) [] [] f fd
abbrev st_mask_of : Stmt := top 1
theorem sc_mask_of : FnScope ["body", "number"] ["body"] (defScope st_mask_of) := ⟨rfl, rfl, rfl, by decide +kernel, rfl, by decide +kernel, by decide +kernel⟩
noncomputable def x_mask_of_1 : Ex :=
  (eBin gShl (eC (.int 1)) (eRef 1))
noncomputable def b_mask_of : Stx :=
  (sRet (eCall gSum (aCons (eLc (aOne (eRef 0)) (one elems) [1] (gNm 1) tYesX x_mask_of_1) aNil)))
noncomputable def f_mask_of : Fn := fnSem 2 [true] b_mask_of
abbrev st_body_of : Stmt := top 2
theorem sc_body_of : FnScope ["mask", "rows", "number"] ["mask"] (defScope st_body_of) := ⟨rfl, rfl, rfl, by decide +kernel, rfl, by decide +kernel, by decide +kernel⟩
noncomputable def t_body_of_1 : Tx :=
  (tBl (eBin gGt (eBin gShr (eRef 0) (eRef 2)) (eC (.int 0))))
noncomputable def l_body_of_2 : Stx :=
  (sSeq (sIf (tBl (eBin gEq (eBin gAnd (eBin gShr (eRef 0) (eRef 2)) (eC (.int 1))) (eC (.int 1)))) (sDrop (eMeth "list" gApp (eRef 1) (aCons (eVar 2) aNil))) sNext)
  (sAug 2 (ipB (· + ·) pT) (eC (.int 1))))
noncomputable def b_body_of : Stx :=
  (sSeq (sSet 1 (eLst aNil))
  (sSeq (sSet 2 (eC (.int 0)))
  (sSeq (sWhile fuel t_body_of_1 l_body_of_2)
  (sRet (eCall gTuple (aCons (eRef 1) aNil))))))
noncomputable def f_body_of : Fn := fnSem 3 [true] b_body_of
abbrev st_greatest_masks : Stmt := top 3
theorem sc_greatest_masks : FnScope ["masks", "found", "mask", "other"] ["masks"] (defScope st_greatest_masks) := ⟨rfl, rfl, rfl, by decide +kernel, rfl, by decide +kernel, by decide +kernel⟩
noncomputable def x_greatest_masks_1 : Ex :=
  (eBin gNe (eBin gAnd (eRef 2) (eRef 3)) (eRef 2))
noncomputable def l_greatest_masks_2 : Stx :=
  (sIf (tOf (eCall gAll (aCons (eLc (aOne (eRef 1)) (one elems) [3] (gNm 3) tYesX x_greatest_masks_1) aNil))) (sDrop (eMeth "list" gApp (eRef 1) (aCons (eVar 2) aNil))) sNext)
noncomputable def b_greatest_masks : Stx :=
  (sSeq (sSet 1 (eLst aNil))
  (sSeq (sFor (aOne (eCall (gSorted true) (aCons (eRef 0) aNil))) (one elems) [true, true, false, true] (gNm 2)
  l_greatest_masks_2)
  (sRet (eMove 1))))
noncomputable def f_greatest_masks : Fn := fnSem 4 [true] b_greatest_masks
abbrev st_greatest : Stmt := top 4
theorem sc_greatest : FnScope ["sets", "mask", "one"] ["sets"] (defScope st_greatest) := ⟨rfl, rfl, rfl, by decide +kernel, rfl, by decide +kernel, by decide +kernel⟩
noncomputable def x_greatest_1 : Ex :=
  (eFz (eOwn f_mask_of (aCons (eRef 2) aNil)))
noncomputable def x_greatest_2 : Ex :=
  (eFz (eOwn f_body_of (aCons (eRef 1) aNil)))
noncomputable def b_greatest : Stx :=
  (sRet (eCall (gSorted false) (aCons (eLc (aOne (eOwn f_greatest_masks (aCons (eLc (aOne (eRef 0)) (one elems) [2] (gNm 2) tYesX x_greatest_1) aNil))) (one elems) [1] (gNm 1) tYesX x_greatest_2) aNil)))
noncomputable def f_greatest : Fn := fnSem 3 [true] b_greatest
abbrev st_meet : Stmt := top 5
theorem sc_meet : FnScope ["first", "second", "number"] ["first", "second"] (defScope st_meet) := ⟨rfl, rfl, rfl, by decide +kernel, rfl, by decide +kernel, by decide +kernel⟩
noncomputable def t_meet_1 : Tx :=
  (tBl (eBin gIn (eRef 2) (eRef 1)))
noncomputable def x_meet_2 : Ex :=
  (eVar 2)
noncomputable def b_meet : Stx :=
  (sRet (eCall gTuple (aCons (eLc (aOne (eRef 0)) (one elems) [2] (gNm 2) t_meet_1 x_meet_2) aNil)))
noncomputable def f_meet : Fn := fnSem 3 [true, true] b_meet
abbrev st_least_masks : Stmt := top 7
theorem sc_least_masks : FnScope ["masks", "found", "mask", "other"] ["masks"] (defScope st_least_masks) := ⟨rfl, rfl, rfl, by decide +kernel, rfl, by decide +kernel, by decide +kernel⟩
noncomputable def x_least_masks_1 : Ex :=
  (eBin gNe (eBin gAnd (eRef 2) (eRef 3)) (eRef 3))
noncomputable def l_least_masks_2 : Stx :=
  (sIf (tOf (eCall gAll (aCons (eLc (aOne (eRef 1)) (one elems) [3] (gNm 3) tYesX x_least_masks_1) aNil))) (sDrop (eMeth "list" gApp (eRef 1) (aCons (eVar 2) aNil))) sNext)
noncomputable def b_least_masks : Stx :=
  (sSeq (sSet 1 (eLst aNil))
  (sSeq (sFor (aOne (eCall (gSorted false) (aCons (eRef 0) aNil))) (one elems) [true, true, false, true] (gNm 2)
  l_least_masks_2)
  (sRet (eMove 1))))
noncomputable def f_least_masks : Fn := fnSem 4 [true] b_least_masks
abbrev st_least : Stmt := top 8
theorem sc_least : FnScope ["sets", "mask", "one"] ["sets"] (defScope st_least) := ⟨rfl, rfl, rfl, by decide +kernel, rfl, by decide +kernel, by decide +kernel⟩
noncomputable def x_least_1 : Ex :=
  (eFz (eOwn f_mask_of (aCons (eRef 2) aNil)))
noncomputable def x_least_2 : Ex :=
  (eFz (eOwn f_body_of (aCons (eRef 1) aNil)))
noncomputable def b_least : Stx :=
  (sRet (eCall (gSorted false) (aCons (eLc (aOne (eOwn f_least_masks (aCons (eLc (aOne (eRef 0)) (one elems) [2] (gNm 2) tYesX x_least_1) aNil))) (one elems) [1] (gNm 1) tYesX x_least_2) aNil)))
noncomputable def f_least : Fn := fnSem 3 [true] b_least
abbrev st_meets_all : Stmt := top 9
theorem sc_meets_all : FnScope ["body", "sets", "one", "number"] ["body", "sets"] (defScope st_meets_all) := ⟨rfl, rfl, rfl, by decide +kernel, rfl, by decide +kernel, by decide +kernel⟩
noncomputable def x_meets_all_1 : Ex :=
  (eBin gIn (eRef 3) (eRef 2))
noncomputable def x_meets_all_2 : Ex :=
  (eCall gAny (aCons (eLc (aOne (eRef 0)) (one elems) [3] (gNm 3) tYesX x_meets_all_1) aNil))
noncomputable def b_meets_all : Stx :=
  (sRet (eCall gAll (aCons (eLc (aOne (eRef 1)) (one elems) [2] (gNm 2) tYesX x_meets_all_2) aNil)))
noncomputable def f_meets_all : Fn := fnSem 4 [true, true] b_meets_all
abbrev st__law_draws : Stmt := top 11
theorem sc__law_draws : FnScope ["script", "draws", "cell", "number", "first", "k", "seed"] ["script"] (defScope st__law_draws) := ⟨rfl, rfl, rfl, by decide +kernel, rfl, by decide +kernel, by decide +kernel⟩
noncomputable def l__law_draws_1 : Stx :=
  (sIf (tBl (eBin gGt (eRef 3) (eC (.int 0)))) (sSeq (sDrop (eMeth "list" gApp (eRef 1) (aCons (eBin gMod (eCall gInt (aCons (eRef 3) aNil)) (eC (.int 840))) aNil)))
  (sSet 3 (eBin gDiv (eRef 3) (eC (.int 840))))) sNext)
noncomputable def l__law_draws_2 : Stx :=
  (sSeq (sSet 3 (eCall gAbs (aCons (eRef 2) aNil)))
  (sSeq (sIf (tBl (eBin gLt (eRef 3) (eBin gPow (eC (.int 10)) (eC (.int 18))))) (sSeq (sSet 4 (eBin gMod (eCall gInt (aCons (eBin gAdd (eBin gMul (eRef 3) (eC (.int 48271))) (eC (.int 11))) aNil)) (eC (.int 2147483647))))
  (sSeq (sDrop (eMeth "list" gApp (eRef 1) (aCons (eBin gMod (eCall gInt (aCons (eBin gAdd (eBin gMul (eRef 4) (eC (.int 69621))) (eRef 3)) aNil)) (eC (.int 2147483629))) aNil)))
  (sSeq (sDrop (eMeth "list" gApp (eRef 1) (aCons (eBin gMod (eCall gInt (aCons (eBin gAdd (eRef 4) (eBin gDiv (eRef 3) (eC (.int 7)))) aNil)) (eC (.int 1000003))) aNil)))
  (sSet 3 (eC (.int 0)))))) sNext)
  (sFor (aCons (eC (.int 60)) aNil) gR1 [true, true, true, false, true, false, true] (gNm 5)
  l__law_draws_1)))
noncomputable def l__law_draws_3 : Stx :=
  (sSeq (sSet 6 (eBin gMod (eCall gInt (aCons (eBin gAdd (eBin gMul (eRef 6) (eC (.int 48271))) (eC (.int 69621))) aNil)) (eC (.int 2147483647))))
  (sDrop (eMeth "list" gApp (eRef 1) (aCons (eBin gDiv (eRef 6) (eC (.int 5))) aNil))))
noncomputable def b__law_draws : Stx :=
  (sSeq (sSet 1 (eLst aNil))
  (sSeq (sFor (aOne (eRef 0)) (one elems) [true, true, false, false, false, false, true] (gNm 2)
  l__law_draws_2)
  (sSeq (sSet 6 (eC (.int 1)))
  (sSeq (sIf (tBl (eBin gGt (eCall gLen (aCons (eRef 0) aNil)) (eC (.int 0)))) (sSet 6 (eBin gAdd (eC (.int 1)) (eCall gAbs (aCons (eBin gIx (eRef 0) (eC (.int 0))) aNil)))) sNext)
  (sSeq (sFor (aCons (eC (.int 200)) aNil) gR1 [true, true, true, true, true, false, false] (gNm 5)
  l__law_draws_3)
  (sRet (eUn gLstRev (eRef 1))))))))
noncomputable def f__law_draws : Fn := fnSem 7 [true] b__law_draws
abbrev st__law_take : Stmt := top 12
theorem sc__law_take : FnScope ["draws", "bound"] ["draws", "bound"] (defScope st__law_take) := ⟨rfl, rfl, rfl, by decide +kernel, rfl, by decide +kernel, by decide +kernel⟩
noncomputable def b__law_take : Stx :=
  (sSeq (sIf (tBl (eBin gEq (eCall gLen (aCons (eRef 0) aNil)) (eC (.int 0)))) (sRet (eC (.int 0))) sNext)
  (sRet (eBin gMod (eCall gInt (aCons (eMeth0 "list" gPop (eRef 0)) aNil)) (eRef 1))))
noncomputable def f__law_take : Fn := fnSem 2 [true, true] b__law_take
abbrev st__law_tuple : Stmt := top 13
theorem sc__law_tuple : FnScope ["draws", "most", "numbers", "turn"] ["draws", "most"] (defScope st__law_tuple) := ⟨rfl, rfl, rfl, by decide +kernel, rfl, by decide +kernel, by decide +kernel⟩
noncomputable def l__law_tuple_1 : Stx :=
  (sDrop (eMeth "list" gApp (eRef 2) (aCons (eFz (eOwn f__law_take (aCons (eRef 0) (aCons (eRef 1) aNil)))) aNil)))
noncomputable def b__law_tuple : Stx :=
  (sSeq (sSet 2 (eLst aNil))
  (sSeq (sFor (aCons (eOwn f__law_take (aCons (eRef 0) (aCons (eC (.int 9)) aNil))) aNil) gR1 [true, true, true, false] (gNm 3)
  l__law_tuple_1)
  (sRet (eCall gTuple (aCons (eCall gSortSet (aCons (eRef 2) aNil)) aNil)))))
noncomputable def f__law_tuple : Fn := fnSem 4 [true, true] b__law_tuple
abbrev st__law_sets : Stmt := top 14
theorem sc__law_sets : FnScope ["draws", "most", "rows", "turn", "one", "number"] ["draws", "most"] (defScope st__law_sets) := ⟨rfl, rfl, rfl, by decide +kernel, rfl, by decide +kernel, by decide +kernel⟩
noncomputable def t__law_sets_1 : Tx :=
  (tBl (eBin gGt (eOwn f__law_take (aCons (eRef 0) (aCons (eC (.int 3)) aNil))) (eC (.int 0))))
noncomputable def x__law_sets_2 : Ex :=
  (eVar 5)
noncomputable def l__law_sets_3 : Stx :=
  (sSeq (sSet 4 (eOwn f__law_tuple (aCons (eRef 0) (aCons (eRef 1) aNil))))
  (sSeq (sIf (tAndX (tBl (eBin gNe (eRef 2) (eLst aNil))) (tBl (eBin gEq (eOwn f__law_take (aCons (eRef 0) (aCons (eC (.int 3)) aNil))) (eC (.int 0))))) (sSet 4 (eCall gTuple (aCons (eLc (aOne (eBin gIx (eRef 2) (eOwn f__law_take (aCons (eRef 0) (aCons (eCall gLen (aCons (eRef 2) aNil)) aNil))))) (one elems) [5] (gNm 5) t__law_sets_1 x__law_sets_2) aNil))) sNext)
  (sIf (tBl (eBin gNotIn (eRef 4) (eRef 2))) (sDrop (eMeth "list" gApp (eRef 2) (aCons (eVar 4) aNil))) sNext)))
noncomputable def b__law_sets : Stx :=
  (sSeq (sSet 2 (eLst aNil))
  (sSeq (sFor (aCons (eBin gIx (eLst (aCons (eC (.int 0)) (aCons (eC (.int 1)) (aCons (eC (.int 4)) (aCons (eC (.int 9)) (aCons (eC (.int 24)) aNil)))))) (eOwn f__law_take (aCons (eRef 0) (aCons (eC (.int 5)) aNil)))) aNil) gR1 [true, true, true, false, false, true] (gNm 3)
  l__law_sets_3)
  (sRet (eMove 2))))
noncomputable def f__law_sets : Fn := fnSem 6 [true, true] b__law_sets
abbrev st__law_part : Stmt := top 15
theorem sc__law_part : FnScope ["one", "other", "number"] ["one", "other"] (defScope st__law_part) := ⟨rfl, rfl, rfl, by decide +kernel, rfl, by decide +kernel, by decide +kernel⟩
noncomputable def x__law_part_1 : Ex :=
  (eBin gIn (eRef 2) (eRef 1))
noncomputable def b__law_part : Stx :=
  (sRet (eCall gAll (aCons (eLc (aOne (eRef 0)) (one elems) [2] (gNm 2) tYesX x__law_part_1) aNil)))
noncomputable def f__law_part : Fn := fnSem 3 [true, true] b__law_part
abbrev st_law : Stmt := top 16
theorem sc_law : FnScope ["script", "draws", "turn", "most", "rows", "given", "high", "low", "first", "second", "body", "due", "answer", "one", "other", "number"] ["script"] (defScope st_law) := ⟨rfl, rfl, rfl, by decide +kernel, rfl, by decide +kernel, by decide +kernel⟩
noncomputable def x_law_1 : Ex :=
  (eFz (eAnd (eBin gNe (eRef 13) (eRef 14)) (eOwn f__law_part (aCons (eRef 13) (aCons (eRef 14) aNil)))))
noncomputable def t_law_2 : Tx :=
  (tNotX (tOf (eCall gAny (aCons (eLc (aOne (eRef 4)) (one elems) [14] (gNm 14) tYesX x_law_1) aNil))))
noncomputable def x_law_3 : Ex :=
  (eVar 13)
noncomputable def x_law_4 : Ex :=
  (eFz (eAnd (eBin gNe (eRef 13) (eRef 14)) (eOwn f__law_part (aCons (eRef 14) (aCons (eRef 13) aNil)))))
noncomputable def t_law_5 : Tx :=
  (tNotX (tOf (eCall gAny (aCons (eLc (aOne (eRef 4)) (one elems) [14] (gNm 14) tYesX x_law_4) aNil))))
noncomputable def x_law_6 : Ex :=
  (eVar 13)
noncomputable def t_law_7 : Tx :=
  (tBl (eBin gIn (eRef 15) (eRef 9)))
noncomputable def x_law_8 : Ex :=
  (eVar 15)
noncomputable def x_law_9 : Ex :=
  (eBin gIn (eRef 15) (eRef 13))
noncomputable def x_law_10 : Ex :=
  (eCall gAny (aCons (eLc (aOne (eRef 10)) (one elems) [15] (gNm 15) tYesX x_law_9) aNil))
noncomputable def l_law_11 : Stx :=
  (sSeq (sSet 11 (eCall gAll (aCons (eLc (aOne (eRef 4)) (one elems) [13] (gNm 13) tYesX x_law_10) aNil)))
  (sSeq (sSet 12 (eOwn f_meets_all (aCons (eRef 10) (aCons (eRef 5) aNil))))
  (sIf (tOrX (tNotX (tOf (eUn (gIsi "bool") (eRef 12)))) (tBl (eBin gNe (eRef 12) (eRef 11)))) (sRet (eC (.bl false))) sNext)))
noncomputable def l_law_12 : Stx :=
  (sSeq (sSet 3 (eBin gIx (eLst (aCons (eC (.int 4)) (aCons (eC (.int 9)) (aCons (eC (.int 30)) (aCons (eC (.int 200)) aNil))))) (eOwn f__law_take (aCons (eRef 1) (aCons (eC (.int 4)) aNil)))))
  (sSeq (sSet 4 (eOwn f__law_sets (aCons (eRef 1) (aCons (eRef 3) aNil))))
  (sSeq (sSet 5 (eCall gList (aCons (eRef 4) aNil)))
  (sSeq (sSet 6 (eLc (aOne (eFrz 4)) (one elems) [13] (gNm 13) t_law_2 x_law_3))
  (sSeq (sSet 7 (eLc (aOne (eFrz 4)) (one elems) [13] (gNm 13) t_law_5 x_law_6))
  (sSeq (sIf (tOrX (tBl (eBin gNe (eCall (gSorted false) (aCons (eOwn f_greatest (aCons (eRef 5) aNil)) aNil)) (eCall (gSorted false) (aCons (eRef 6) aNil)))) (tOrX (tBl (eBin gNe (eCall (gSorted false) (aCons (eOwn f_least (aCons (eRef 5) aNil)) aNil)) (eCall (gSorted false) (aCons (eRef 7) aNil)))) (tBl (eBin gNe (eRef 5) (eRef 4))))) (sRet (eC (.bl false))) sNext)
  (sSeq (sUnp (gTp ((gNm 8) :: ((gNm 9) :: []))) (eTup (aCons (eFz (eOwn f__law_tuple (aCons (eRef 1) (aCons (eRef 3) aNil)))) (aCons (eFz (eOwn f__law_tuple (aCons (eRef 1) (aCons (eRef 3) aNil)))) aNil))))
  (sSeq (sIf (tBl (eBin gNe (eRef 4) (eLst aNil))) (sSet 9 (eBin gIx (eRef 4) (eOwn f__law_take (aCons (eRef 1) (aCons (eCall gLen (aCons (eRef 4) aNil)) aNil))))) sNext)
  (sSeq (sIf (tBl (eBin gNe (eOwn f_meet (aCons (eRef 8) (aCons (eRef 9) aNil))) (eCall gTuple (aCons (eLc (aOne (eRef 8)) (one elems) [15] (gNm 15) t_law_7 x_law_8) aNil)))) (sRet (eC (.bl false))) sNext)
  (sFor (aOne (eLst (aCons (eVar 8) (aCons (eVar 9) (aCons (eTup aNil) aNil))))) (one elems) [true, true, true, true, true, true, true, true, true, true, false, false, false, true, true, true] (gNm 10)
  l_law_11))))))))))
noncomputable def b_law : Stx :=
  (sSeq (sSet 1 (eOwn f__law_draws (aCons (eRef 0) aNil)))
  (sSeq (sFor (aCons (eC (.int 3)) aNil) gR1 [true, true, false, false, false, false, false, false, false, false, false, false, false, true, true, true] (gNm 2)
  l_law_12)
  (sRet (eC (.bl true)))))
noncomputable def f_law : Fn := fnSem 16 [true] b_law
section
variable {P : Program} {w : World} {K : PySem.W.Frag} {mg : Str → Option Value} {base : Heap} {C : Str → Addr}
theorem fk_mask_of {f : Addr} {fd : FuncData} (F : FnP K "mask_of" st_mask_of f fd) (m_sum : mg "sum" = none)  : FnOk P w K mg base (L2.CX P w) 1 f fd ["body"] (FSp ⟨P, w, K, C⟩ f_mask_of) :=
  fn_ok (N := ["body", "number"]) (k := 0) (pin := [true]) (fb := b_mask_of) F sc_mask_of rfl (by decide) (fun cdv A outer s H E hr => have hu := units65 hr;
  (vb_one (vs_ret (c_sum rfl m_sum (va_cons (ve_lc (own := [("number", 1)]) rfl sc_mask_of.nd (vi_seq ve_ref) (blk_of (by kernel_rfl!)) (by decide) (fun _ _ _ _ _ => (vg_name sc_mask_of.nd rfl (by first | exact .inl rfl | exact .inr rfl) rfl)) (fun _ _ _ _ _ => vts_nil) (fun _ _ _ _ _ => (n_shl ve_int ve_ref))) va_nil)))))
theorem ok_mask_of {f : Addr} {fd : FuncData} (F : FnP K "mask_of" st_mask_of f fd) (m_sum : mg "sum" = none)  (g : mg "mask_of" = some (.ref f)) : OwnD P w K mg base C "mask_of" 1 f_mask_of :=
  ⟨f, fd, ["body"], fk_mask_of F m_sum , g, F.kp, F.bindsN fun _ _ _ _ _ _ us hl => match us, hl with | [_], _ => rfl⟩
theorem fk_body_of {f : Addr} {fd : FuncData} (F : FnP K "body_of" st_body_of f fd) (m_tuple : mg "tuple" = none)  : FnOk P w K mg base (L2.CX P w) 1 f fd ["mask"] (FSp ⟨P, w, K, C⟩ f_body_of) :=
  fn_ok (N := ["mask", "rows", "number"]) (k := 0) (pin := [true]) (fb := b_body_of) F sc_body_of rfl (by decide) (fun cdv A outer s H E hr => have hu := units65 hr;
  (vb_cons (vs_set sc_body_of.nd rfl (by first | exact .inl rfl | exact .inr rfl) rfl (ve_lst va_nil))
  (vb_cons (vs_set sc_body_of.nd rfl (by first | exact .inl rfl | exact .inr rfl) rfl ve_int)
  (vb_cons (vs_while fuel passes_cx (t_gt (n_shr ve_ref ve_ref) ve_int) (vb_cons (vs_if (t_eq hu (n_and (n_shr ve_ref ve_ref) ve_int) ve_int) (vb_one (vs_expr (m_app ve_ref (va_cons ve_var va_nil)))) vb_nil)
  (vb_one (vs_addI sc_body_of.nd rfl (by first | exact .inl rfl | exact .inr rfl) rfl ve_int))))
  (vb_one (vs_ret (c_tuple m_tuple (va_cons ve_ref va_nil))))))))
theorem ok_body_of {f : Addr} {fd : FuncData} (F : FnP K "body_of" st_body_of f fd) (m_tuple : mg "tuple" = none)  (g : mg "body_of" = some (.ref f)) : OwnD P w K mg base C "body_of" 1 f_body_of :=
  ⟨f, fd, ["mask"], fk_body_of F m_tuple , g, F.kp, F.bindsN fun _ _ _ _ _ _ us hl => match us, hl with | [_], _ => rfl⟩
theorem fk_greatest_masks {f : Addr} {fd : FuncData} (F : FnP K "greatest_masks" st_greatest_masks f fd) (m_all : mg "all" = none) (m_sorted : mg "sorted" = none)  : FnOk P w K mg base (L2.CX P w) 1 f fd ["masks"] (FSp ⟨P, w, K, C⟩ f_greatest_masks) :=
  fn_ok (N := ["masks", "found", "mask", "other"]) (k := 0) (pin := [true]) (fb := b_greatest_masks) F sc_greatest_masks rfl (by decide) (fun cdv A outer s H E hr => have hu := units65 hr;
  (vb_cons (vs_set sc_greatest_masks.nd rfl (by first | exact .inl rfl | exact .inr rfl) rfl (ve_lst va_nil))
  (vb_cons (vs_for passes_cx rfl (vi_seq (ve_sortedR (Nat.lt_of_succ_lt hu) rfl m_sorted (va_cons ve_ref va_nil))) (vg_name sc_greatest_masks.nd rfl (by first | exact .inl rfl | exact .inr rfl) rfl)
  (vb_one (vs_if (vt_of (c_all rfl m_all (va_cons (ve_lc (own := [("other", 3)]) rfl sc_greatest_masks.nd (vi_seq ve_ref) (blk_of (by kernel_rfl!)) (by decide) (fun _ _ _ _ _ => (vg_name sc_greatest_masks.nd rfl (by first | exact .inl rfl | exact .inr rfl) rfl)) (fun _ _ _ _ _ => vts_nil) (fun _ _ _ _ _ => (n_ne hu (n_and ve_ref ve_ref) ve_ref))) va_nil))) (vb_one (vs_expr (m_app ve_ref (va_cons ve_var va_nil)))) vb_nil)) (pp_of rfl))
  (vb_one (vs_ret ve_move)))))
theorem ok_greatest_masks {f : Addr} {fd : FuncData} (F : FnP K "greatest_masks" st_greatest_masks f fd) (m_all : mg "all" = none) (m_sorted : mg "sorted" = none)  (g : mg "greatest_masks" = some (.ref f)) : OwnD P w K mg base C "greatest_masks" 1 f_greatest_masks :=
  ⟨f, fd, ["masks"], fk_greatest_masks F m_all m_sorted , g, F.kp, F.bindsN fun _ _ _ _ _ _ us hl => match us, hl with | [_], _ => rfl⟩
theorem fk_greatest {f : Addr} {fd : FuncData} (F : FnP K "greatest" st_greatest f fd) (m_sorted : mg "sorted" = none) (o_body_of : OwnD P w K mg base C "body_of" 1 f_body_of) (o_greatest_masks : OwnD P w K mg base C "greatest_masks" 1 f_greatest_masks) (o_mask_of : OwnD P w K mg base C "mask_of" 1 f_mask_of) : FnOk P w K mg base (L2.CX P w) 2 f fd ["sets"] (FSp ⟨P, w, K, C⟩ f_greatest) :=
  fn_ok (N := ["sets", "mask", "one"]) (k := 1) (pin := [true]) (fb := b_greatest) F sc_greatest rfl (by decide) (fun cdv A outer s H E hr => have hu := units65 hr;
  (vb_one (vs_ret (c_sorted hu m_sorted (va_cons (ve_lc (own := [("mask", 1)]) rfl sc_greatest.nd (vi_seq (n_own o_greatest_masks (hr.mono (by decide)) takes_cx (va_cons (ve_lc (own := [("one", 2)]) rfl sc_greatest.nd (vi_seq ve_ref) (blk_of (by kernel_rfl!)) (by decide) (fun _ _ _ _ _ => (vg_name sc_greatest.nd rfl (by first | exact .inl rfl | exact .inr rfl) rfl)) (fun _ _ _ _ _ => vts_nil) (fun _ _ _ _ _ => (ve_fz (n_own o_mask_of (hr.mono (by decide)) takes_no (va_cons ve_ref va_nil))))) va_nil))) (blk_of (by kernel_rfl!)) (by decide) (fun _ _ _ _ _ => (vg_name sc_greatest.nd rfl (by first | exact .inl rfl | exact .inr rfl) rfl)) (fun _ _ _ _ _ => vts_nil) (fun _ _ _ _ _ => (ve_fz (n_own o_body_of (hr.mono (by decide)) takes_no (va_cons ve_ref va_nil))))) va_nil)))))
theorem ok_greatest {f : Addr} {fd : FuncData} (F : FnP K "greatest" st_greatest f fd) (m_sorted : mg "sorted" = none) (o_body_of : OwnD P w K mg base C "body_of" 1 f_body_of) (o_greatest_masks : OwnD P w K mg base C "greatest_masks" 1 f_greatest_masks) (o_mask_of : OwnD P w K mg base C "mask_of" 1 f_mask_of) (g : mg "greatest" = some (.ref f)) : OwnD P w K mg base C "greatest" 2 f_greatest :=
  ⟨f, fd, ["sets"], fk_greatest F m_sorted o_body_of o_greatest_masks o_mask_of, g, F.kp, F.bindsN fun _ _ _ _ _ _ us hl => match us, hl with | [_], _ => rfl⟩
theorem fk_meet {f : Addr} {fd : FuncData} (F : FnP K "meet" st_meet f fd) (m_tuple : mg "tuple" = none)  : FnOk P w K mg base (L2.CX P w) 1 f fd ["first", "second"] (FSp ⟨P, w, K, C⟩ f_meet) :=
  fn_ok (N := ["first", "second", "number"]) (k := 0) (pin := [true, true]) (fb := b_meet) F sc_meet rfl (by decide) (fun cdv A outer s H E hr => have hu := units65 hr;
  (vb_one (vs_ret (c_tuple m_tuple (va_cons (ve_lc (own := [("number", 2)]) rfl sc_meet.nd (vi_seq ve_ref) (blk_of (by kernel_rfl!)) (by decide) (fun _ _ _ _ _ => (vg_name sc_meet.nd rfl (by first | exact .inl rfl | exact .inr rfl) rfl)) (fun _ _ _ _ _ => (vts_one (t_in hu ve_ref ve_ref))) (fun _ _ _ _ _ => ve_var)) va_nil)))))
theorem ok_meet {f : Addr} {fd : FuncData} (F : FnP K "meet" st_meet f fd) (m_tuple : mg "tuple" = none)  (g : mg "meet" = some (.ref f)) : OwnD P w K mg base C "meet" 1 f_meet :=
  ⟨f, fd, ["first", "second"], fk_meet F m_tuple , g, F.kp, F.bindsN fun _ _ _ _ _ _ us hl => match us, hl with | [_, _], _ => rfl⟩
theorem fk_least_masks {f : Addr} {fd : FuncData} (F : FnP K "least_masks" st_least_masks f fd) (m_all : mg "all" = none) (m_sorted : mg "sorted" = none)  : FnOk P w K mg base (L2.CX P w) 1 f fd ["masks"] (FSp ⟨P, w, K, C⟩ f_least_masks) :=
  fn_ok (N := ["masks", "found", "mask", "other"]) (k := 0) (pin := [true]) (fb := b_least_masks) F sc_least_masks rfl (by decide) (fun cdv A outer s H E hr => have hu := units65 hr;
  (vb_cons (vs_set sc_least_masks.nd rfl (by first | exact .inl rfl | exact .inr rfl) rfl (ve_lst va_nil))
  (vb_cons (vs_for passes_cx rfl (vi_seq (c_sorted hu m_sorted (va_cons ve_ref va_nil))) (vg_name sc_least_masks.nd rfl (by first | exact .inl rfl | exact .inr rfl) rfl)
  (vb_one (vs_if (vt_of (c_all rfl m_all (va_cons (ve_lc (own := [("other", 3)]) rfl sc_least_masks.nd (vi_seq ve_ref) (blk_of (by kernel_rfl!)) (by decide) (fun _ _ _ _ _ => (vg_name sc_least_masks.nd rfl (by first | exact .inl rfl | exact .inr rfl) rfl)) (fun _ _ _ _ _ => vts_nil) (fun _ _ _ _ _ => (n_ne hu (n_and ve_ref ve_ref) ve_ref))) va_nil))) (vb_one (vs_expr (m_app ve_ref (va_cons ve_var va_nil)))) vb_nil)) (pp_of rfl))
  (vb_one (vs_ret ve_move)))))
theorem ok_least_masks {f : Addr} {fd : FuncData} (F : FnP K "least_masks" st_least_masks f fd) (m_all : mg "all" = none) (m_sorted : mg "sorted" = none)  (g : mg "least_masks" = some (.ref f)) : OwnD P w K mg base C "least_masks" 1 f_least_masks :=
  ⟨f, fd, ["masks"], fk_least_masks F m_all m_sorted , g, F.kp, F.bindsN fun _ _ _ _ _ _ us hl => match us, hl with | [_], _ => rfl⟩
theorem fk_least {f : Addr} {fd : FuncData} (F : FnP K "least" st_least f fd) (m_sorted : mg "sorted" = none) (o_body_of : OwnD P w K mg base C "body_of" 1 f_body_of) (o_least_masks : OwnD P w K mg base C "least_masks" 1 f_least_masks) (o_mask_of : OwnD P w K mg base C "mask_of" 1 f_mask_of) : FnOk P w K mg base (L2.CX P w) 2 f fd ["sets"] (FSp ⟨P, w, K, C⟩ f_least) :=
  fn_ok (N := ["sets", "mask", "one"]) (k := 1) (pin := [true]) (fb := b_least) F sc_least rfl (by decide) (fun cdv A outer s H E hr => have hu := units65 hr;
  (vb_one (vs_ret (c_sorted hu m_sorted (va_cons (ve_lc (own := [("mask", 1)]) rfl sc_least.nd (vi_seq (n_own o_least_masks (hr.mono (by decide)) takes_cx (va_cons (ve_lc (own := [("one", 2)]) rfl sc_least.nd (vi_seq ve_ref) (blk_of (by kernel_rfl!)) (by decide) (fun _ _ _ _ _ => (vg_name sc_least.nd rfl (by first | exact .inl rfl | exact .inr rfl) rfl)) (fun _ _ _ _ _ => vts_nil) (fun _ _ _ _ _ => (ve_fz (n_own o_mask_of (hr.mono (by decide)) takes_no (va_cons ve_ref va_nil))))) va_nil))) (blk_of (by kernel_rfl!)) (by decide) (fun _ _ _ _ _ => (vg_name sc_least.nd rfl (by first | exact .inl rfl | exact .inr rfl) rfl)) (fun _ _ _ _ _ => vts_nil) (fun _ _ _ _ _ => (ve_fz (n_own o_body_of (hr.mono (by decide)) takes_no (va_cons ve_ref va_nil))))) va_nil)))))
theorem ok_least {f : Addr} {fd : FuncData} (F : FnP K "least" st_least f fd) (m_sorted : mg "sorted" = none) (o_body_of : OwnD P w K mg base C "body_of" 1 f_body_of) (o_least_masks : OwnD P w K mg base C "least_masks" 1 f_least_masks) (o_mask_of : OwnD P w K mg base C "mask_of" 1 f_mask_of) (g : mg "least" = some (.ref f)) : OwnD P w K mg base C "least" 2 f_least :=
  ⟨f, fd, ["sets"], fk_least F m_sorted o_body_of o_least_masks o_mask_of, g, F.kp, F.bindsN fun _ _ _ _ _ _ us hl => match us, hl with | [_], _ => rfl⟩
theorem fk_meets_all {f : Addr} {fd : FuncData} (F : FnP K "meets_all" st_meets_all f fd) (m_all : mg "all" = none) (m_any : mg "any" = none)  : FnOk P w K mg base (L2.CX P w) 1 f fd ["body", "sets"] (FSp ⟨P, w, K, C⟩ f_meets_all) :=
  fn_ok (N := ["body", "sets", "one", "number"]) (k := 0) (pin := [true, true]) (fb := b_meets_all) F sc_meets_all rfl (by decide) (fun cdv A outer s H E hr => have hu := units65 hr;
  (vb_one (vs_ret (c_all rfl m_all (va_cons (ve_lc (own := [("one", 2)]) rfl sc_meets_all.nd (vi_seq ve_ref) (blk_of (by kernel_rfl!)) (by decide) (fun _ _ _ _ _ => (vg_name sc_meets_all.nd rfl (by first | exact .inl rfl | exact .inr rfl) rfl)) (fun _ _ _ _ _ => vts_nil) (fun _ _ _ _ _ => (c_any rfl m_any (va_cons (ve_lc (own := [("number", 3)]) rfl sc_meets_all.nd (vi_seq ve_ref) (blk_of (by kernel_rfl!)) (by decide) (fun _ _ _ _ _ => (vg_name sc_meets_all.nd rfl (by first | exact .inl rfl | exact .inr rfl) rfl)) (fun _ _ _ _ _ => vts_nil) (fun _ _ _ _ _ => (n_in hu ve_ref ve_ref))) va_nil)))) va_nil)))))
theorem ok_meets_all {f : Addr} {fd : FuncData} (F : FnP K "meets_all" st_meets_all f fd) (m_all : mg "all" = none) (m_any : mg "any" = none)  (g : mg "meets_all" = some (.ref f)) : OwnD P w K mg base C "meets_all" 1 f_meets_all :=
  ⟨f, fd, ["body", "sets"], fk_meets_all F m_all m_any , g, F.kp, F.bindsN fun _ _ _ _ _ _ us hl => match us, hl with | [_, _], _ => rfl⟩
theorem fk__law_draws {f : Addr} {fd : FuncData} (F : FnP K "_law_draws" st__law_draws f fd) (m_abs : mg "abs" = none) (m_int : mg "int" = none) (m_len : mg "len" = none) (m_list : mg "list" = none) (m_range : mg "range" = none) (m_reversed : mg "reversed" = none)  : FnOk P w K mg base (L2.CX P w) 1 f fd ["script"] (FSp ⟨P, w, K, C⟩ f__law_draws) :=
  fn_ok (N := ["script", "draws", "cell", "number", "first", "k", "seed"]) (k := 0) (pin := [true]) (fb := b__law_draws) F sc__law_draws rfl (by decide) (fun cdv A outer s H E hr => have hu := units65 hr;
  (vb_cons (vs_set sc__law_draws.nd rfl (by first | exact .inl rfl | exact .inr rfl) rfl (ve_lst va_nil))
  (vb_cons (vs_for passes_cx rfl (vi_seq ve_ref) (vg_name sc__law_draws.nd rfl (by first | exact .inl rfl | exact .inr rfl) rfl)
  (vb_cons (vs_set sc__law_draws.nd rfl (by first | exact .inl rfl | exact .inr rfl) rfl (c_abs m_abs (va_cons ve_ref va_nil)))
  (vb_cons (vs_if (t_lt ve_ref (n_pow ve_int ve_int)) (vb_cons (vs_set sc__law_draws.nd rfl (by first | exact .inl rfl | exact .inr rfl) rfl (n_mod (c_int m_int (va_cons (n_add (n_mul ve_ref ve_int) ve_int) va_nil)) ve_int))
  (vb_cons (vs_expr (m_app ve_ref (va_cons (n_mod (c_int m_int (va_cons (n_add (n_mul ve_ref ve_int) ve_ref) va_nil)) ve_int) va_nil)))
  (vb_cons (vs_expr (m_app ve_ref (va_cons (n_mod (c_int m_int (va_cons (n_add ve_ref (n_fdiv ve_ref ve_int)) va_nil)) ve_int) va_nil)))
  (vb_one (vs_set sc__law_draws.nd rfl (by first | exact .inl rfl | exact .inr rfl) rfl ve_int))))) vb_nil)
  (vb_one (vs_for passes_cx rfl (vi_range1 rfl m_range (va_cons ve_int va_nil)) (vg_name sc__law_draws.nd rfl (by first | exact .inl rfl | exact .inr rfl) rfl)
  (vb_one (vs_if (t_gt ve_ref ve_int) (vb_cons (vs_expr (m_app ve_ref (va_cons (n_mod (c_int m_int (va_cons ve_ref va_nil)) ve_int) va_nil)))
  (vb_one (vs_set sc__law_draws.nd rfl (by first | exact .inl rfl | exact .inr rfl) rfl (n_fdiv ve_ref ve_int)))) vb_nil)) (pp_of rfl))))) (pp_of rfl))
  (vb_cons (vs_set sc__law_draws.nd rfl (by first | exact .inl rfl | exact .inr rfl) rfl ve_int)
  (vb_cons (vs_if (t_gt (c_len m_len (va_cons ve_ref va_nil)) ve_int) (vb_one (vs_set sc__law_draws.nd rfl (by first | exact .inl rfl | exact .inr rfl) rfl (n_add ve_int (c_abs m_abs (va_cons (n_ix ve_ref ve_int) va_nil))))) vb_nil)
  (vb_cons (vs_for passes_cx rfl (vi_range1 rfl m_range (va_cons ve_int va_nil)) (vg_name sc__law_draws.nd rfl (by first | exact .inl rfl | exact .inr rfl) rfl)
  (vb_cons (vs_set sc__law_draws.nd rfl (by first | exact .inl rfl | exact .inr rfl) rfl (n_mod (c_int m_int (va_cons (n_add (n_mul ve_ref ve_int) ve_int) va_nil)) ve_int))
  (vb_one (vs_expr (m_app ve_ref (va_cons (n_fdiv ve_ref ve_int) va_nil))))) (pp_of rfl))
  (vb_one (vs_ret (ve_lstRev rfl rfl m_list rfl m_reversed ve_ref)))))))))
theorem ok__law_draws {f : Addr} {fd : FuncData} (F : FnP K "_law_draws" st__law_draws f fd) (m_abs : mg "abs" = none) (m_int : mg "int" = none) (m_len : mg "len" = none) (m_list : mg "list" = none) (m_range : mg "range" = none) (m_reversed : mg "reversed" = none)  (g : mg "_law_draws" = some (.ref f)) : OwnD P w K mg base C "_law_draws" 1 f__law_draws :=
  ⟨f, fd, ["script"], fk__law_draws F m_abs m_int m_len m_list m_range m_reversed , g, F.kp, F.bindsN fun _ _ _ _ _ _ us hl => match us, hl with | [_], _ => rfl⟩
theorem fk__law_take {f : Addr} {fd : FuncData} (F : FnP K "_law_take" st__law_take f fd) (m_int : mg "int" = none) (m_len : mg "len" = none)  : FnOk P w K mg base (L2.CX P w) 1 f fd ["draws", "bound"] (FSp ⟨P, w, K, C⟩ f__law_take) :=
  fn_ok (N := ["draws", "bound"]) (k := 0) (pin := [true, true]) (fb := b__law_take) F sc__law_take rfl (by decide) (fun cdv A outer s H E hr => have hu := units65 hr;
  (vb_cons (vs_if (t_eq hu (c_len m_len (va_cons ve_ref va_nil)) ve_int) (vb_one (vs_ret ve_int)) vb_nil)
  (vb_one (vs_ret (n_mod (c_int m_int (va_cons (m_pop ve_ref) va_nil)) ve_ref)))))
theorem ok__law_take {f : Addr} {fd : FuncData} (F : FnP K "_law_take" st__law_take f fd) (m_int : mg "int" = none) (m_len : mg "len" = none)  (g : mg "_law_take" = some (.ref f)) : OwnD P w K mg base C "_law_take" 1 f__law_take :=
  ⟨f, fd, ["draws", "bound"], fk__law_take F m_int m_len , g, F.kp, F.bindsN fun _ _ _ _ _ _ us hl => match us, hl with | [_, _], _ => rfl⟩
theorem fk__law_tuple {f : Addr} {fd : FuncData} (F : FnP K "_law_tuple" st__law_tuple f fd) (m_range : mg "range" = none) (m_set : mg "set" = none) (m_sorted : mg "sorted" = none) (m_tuple : mg "tuple" = none) (o__law_take : OwnD P w K mg base C "_law_take" 1 f__law_take) : FnOk P w K mg base (L2.CX P w) 2 f fd ["draws", "most"] (FSp ⟨P, w, K, C⟩ f__law_tuple) :=
  fn_ok (N := ["draws", "most", "numbers", "turn"]) (k := 1) (pin := [true, true]) (fb := b__law_tuple) F sc__law_tuple rfl (by decide) (fun cdv A outer s H E hr => have hu := units65 hr;
  (vb_cons (vs_set sc__law_tuple.nd rfl (by first | exact .inl rfl | exact .inr rfl) rfl (ve_lst va_nil))
  (vb_cons (vs_for passes_cx rfl (vi_range1 rfl m_range (va_cons (n_own o__law_take (hr.mono (by decide)) takes_cx (va_cons ve_ref (va_cons ve_int va_nil))) va_nil)) (vg_name sc__law_tuple.nd rfl (by first | exact .inl rfl | exact .inr rfl) rfl)
  (vb_one (vs_expr (m_app ve_ref (va_cons (ve_fz (n_own o__law_take (hr.mono (by decide)) takes_cx (va_cons ve_ref (va_cons ve_ref va_nil)))) va_nil)))) (pp_of rfl))
  (vb_one (vs_ret (c_tuple m_tuple (va_cons (ve_sortSet rfl rfl m_sorted rfl m_set (va_cons ve_ref va_nil)) va_nil)))))))
theorem ok__law_tuple {f : Addr} {fd : FuncData} (F : FnP K "_law_tuple" st__law_tuple f fd) (m_range : mg "range" = none) (m_set : mg "set" = none) (m_sorted : mg "sorted" = none) (m_tuple : mg "tuple" = none) (o__law_take : OwnD P w K mg base C "_law_take" 1 f__law_take) (g : mg "_law_tuple" = some (.ref f)) : OwnD P w K mg base C "_law_tuple" 2 f__law_tuple :=
  ⟨f, fd, ["draws", "most"], fk__law_tuple F m_range m_set m_sorted m_tuple o__law_take, g, F.kp, F.bindsN fun _ _ _ _ _ _ us hl => match us, hl with | [_, _], _ => rfl⟩
theorem fk__law_sets {f : Addr} {fd : FuncData} (F : FnP K "_law_sets" st__law_sets f fd) (m_len : mg "len" = none) (m_range : mg "range" = none) (m_tuple : mg "tuple" = none) (o__law_take : OwnD P w K mg base C "_law_take" 1 f__law_take) (o__law_tuple : OwnD P w K mg base C "_law_tuple" 2 f__law_tuple) : FnOk P w K mg base (L2.CX P w) 3 f fd ["draws", "most"] (FSp ⟨P, w, K, C⟩ f__law_sets) :=
  fn_ok (N := ["draws", "most", "rows", "turn", "one", "number"]) (k := 2) (pin := [true, true]) (fb := b__law_sets) F sc__law_sets rfl (by decide) (fun cdv A outer s H E hr => have hu := units65 hr;
  (vb_cons (vs_set sc__law_sets.nd rfl (by first | exact .inl rfl | exact .inr rfl) rfl (ve_lst va_nil))
  (vb_cons (vs_for passes_cx rfl (vi_range1 rfl m_range (va_cons (n_ix (ve_lst (va_cons ve_int (va_cons ve_int (va_cons ve_int (va_cons ve_int (va_cons ve_int va_nil)))))) (n_own o__law_take (hr.mono (by decide)) takes_cx (va_cons ve_ref (va_cons ve_int va_nil)))) va_nil)) (vg_name sc__law_sets.nd rfl (by first | exact .inl rfl | exact .inr rfl) rfl)
  (vb_cons (vs_set sc__law_sets.nd rfl (by first | exact .inl rfl | exact .inr rfl) rfl (n_own o__law_tuple (hr.mono (by decide)) takes_cx (va_cons ve_ref (va_cons ve_ref va_nil))))
  (vb_cons (vs_if ((vw_and (t_ne hu ve_ref (ve_lst va_nil)) (vw_and1 (t_eq hu (n_own o__law_take (hr.mono (by decide)) takes_cx (va_cons ve_ref (va_cons ve_int va_nil))) ve_int)))).vt (vb_one (vs_set sc__law_sets.nd rfl (by first | exact .inl rfl | exact .inr rfl) rfl (c_tuple m_tuple (va_cons (ve_lc (own := [("number", 5)]) rfl sc__law_sets.nd (vi_seq (n_ix ve_ref (n_own o__law_take (hr.mono (by decide)) takes_cx (va_cons ve_ref (va_cons (c_len m_len (va_cons ve_ref va_nil)) va_nil))))) (blk_of (by kernel_rfl!)) (by decide) (fun _ _ _ _ _ => (vg_name sc__law_sets.nd rfl (by first | exact .inl rfl | exact .inr rfl) rfl)) (fun _ _ _ _ _ => (vts_one (t_gt (n_own o__law_take (hr.mono (by decide)) takes_no (va_cons ve_ref (va_cons ve_int va_nil))) ve_int))) (fun _ _ _ _ _ => ve_var)) va_nil)))) vb_nil)
  (vb_one (vs_if (t_notin hu ve_ref ve_ref) (vb_one (vs_expr (m_app ve_ref (va_cons ve_var va_nil)))) vb_nil)))) (pp_of rfl))
  (vb_one (vs_ret ve_move)))))
theorem ok__law_sets {f : Addr} {fd : FuncData} (F : FnP K "_law_sets" st__law_sets f fd) (m_len : mg "len" = none) (m_range : mg "range" = none) (m_tuple : mg "tuple" = none) (o__law_take : OwnD P w K mg base C "_law_take" 1 f__law_take) (o__law_tuple : OwnD P w K mg base C "_law_tuple" 2 f__law_tuple) (g : mg "_law_sets" = some (.ref f)) : OwnD P w K mg base C "_law_sets" 3 f__law_sets :=
  ⟨f, fd, ["draws", "most"], fk__law_sets F m_len m_range m_tuple o__law_take o__law_tuple, g, F.kp, F.bindsN fun _ _ _ _ _ _ us hl => match us, hl with | [_, _], _ => rfl⟩
theorem fk__law_part {f : Addr} {fd : FuncData} (F : FnP K "_law_part" st__law_part f fd) (m_all : mg "all" = none)  : FnOk P w K mg base (L2.CX P w) 1 f fd ["one", "other"] (FSp ⟨P, w, K, C⟩ f__law_part) :=
  fn_ok (N := ["one", "other", "number"]) (k := 0) (pin := [true, true]) (fb := b__law_part) F sc__law_part rfl (by decide) (fun cdv A outer s H E hr => have hu := units65 hr;
  (vb_one (vs_ret (c_all rfl m_all (va_cons (ve_lc (own := [("number", 2)]) rfl sc__law_part.nd (vi_seq ve_ref) (blk_of (by kernel_rfl!)) (by decide) (fun _ _ _ _ _ => (vg_name sc__law_part.nd rfl (by first | exact .inl rfl | exact .inr rfl) rfl)) (fun _ _ _ _ _ => vts_nil) (fun _ _ _ _ _ => (n_in hu ve_ref ve_ref))) va_nil)))))
theorem ok__law_part {f : Addr} {fd : FuncData} (F : FnP K "_law_part" st__law_part f fd) (m_all : mg "all" = none)  (g : mg "_law_part" = some (.ref f)) : OwnD P w K mg base C "_law_part" 1 f__law_part :=
  ⟨f, fd, ["one", "other"], fk__law_part F m_all , g, F.kp, F.bindsN fun _ _ _ _ _ _ us hl => match us, hl with | [_, _], _ => rfl⟩
theorem fk_law {f : Addr} {fd : FuncData} (F : FnP K "law" st_law f fd) (m_all : mg "all" = none) (m_any : mg "any" = none) (m_bool : mg "bool" = none) (m_isinstance : mg "isinstance" = none) (m_len : mg "len" = none) (m_list : mg "list" = none) (m_range : mg "range" = none) (m_sorted : mg "sorted" = none) (m_tuple : mg "tuple" = none) (o__law_draws : OwnD P w K mg base C "_law_draws" 1 f__law_draws) (o__law_part : OwnD P w K mg base C "_law_part" 1 f__law_part) (o__law_sets : OwnD P w K mg base C "_law_sets" 3 f__law_sets) (o__law_take : OwnD P w K mg base C "_law_take" 1 f__law_take) (o__law_tuple : OwnD P w K mg base C "_law_tuple" 2 f__law_tuple) (o_greatest : OwnD P w K mg base C "greatest" 2 f_greatest) (o_least : OwnD P w K mg base C "least" 2 f_least) (o_meet : OwnD P w K mg base C "meet" 1 f_meet) (o_meets_all : OwnD P w K mg base C "meets_all" 1 f_meets_all) : FnOk P w K mg base (L2.CX P w) 4 f fd ["script"] (FSp ⟨P, w, K, C⟩ f_law) :=
  fn_ok (N := ["script", "draws", "turn", "most", "rows", "given", "high", "low", "first", "second", "body", "due", "answer", "one", "other", "number"]) (k := 3) (pin := [true]) (fb := b_law) F sc_law rfl (by decide) (fun cdv A outer s H E hr => have hu := units65 hr;
  (vb_cons (vs_set sc_law.nd rfl (by first | exact .inl rfl | exact .inr rfl) rfl (n_own o__law_draws (hr.mono (by decide)) takes_cx (va_cons ve_ref va_nil)))
  (vb_cons (vs_for passes_cx rfl (vi_range1 rfl m_range (va_cons ve_int va_nil)) (vg_name sc_law.nd rfl (by first | exact .inl rfl | exact .inr rfl) rfl)
  (vb_cons (vs_set sc_law.nd rfl (by first | exact .inl rfl | exact .inr rfl) rfl (n_ix (ve_lst (va_cons ve_int (va_cons ve_int (va_cons ve_int (va_cons ve_int va_nil))))) (n_own o__law_take (hr.mono (by decide)) takes_cx (va_cons ve_ref (va_cons ve_int va_nil)))))
  (vb_cons (vs_set sc_law.nd rfl (by first | exact .inl rfl | exact .inr rfl) rfl (n_own o__law_sets (hr.mono (by decide)) takes_cx (va_cons ve_ref (va_cons ve_ref va_nil))))
  (vb_cons (vs_set sc_law.nd rfl (by first | exact .inl rfl | exact .inr rfl) rfl (c_list m_list (va_cons ve_ref va_nil)))
  (vb_cons (vs_setLc (own := [("one", 13)]) rfl sc_law.nd rfl rfl rfl (by rfl) (vi_seq ve_frz) (blk_of (by kernel_rfl!)) (by decide) (fun _ _ _ _ _ => (vg_name sc_law.nd rfl (by first | exact .inl rfl | exact .inr rfl) rfl)) (fun _ _ _ _ _ => (vts_one (vt_not (vt_of (c_any rfl m_any (va_cons (ve_lc (own := [("other", 14)]) rfl sc_law.nd (vi_seq ve_ref) (blk_of (by kernel_rfl!)) (by decide) (fun _ _ _ _ _ => (vg_name sc_law.nd rfl (by first | exact .inl rfl | exact .inr rfl) rfl)) (fun _ _ _ _ _ => vts_nil) (fun _ _ _ _ _ => (ve_fz (ve_and (n_ne hu ve_ref ve_ref) (ve_one (n_own o__law_part (hr.mono (by decide)) takes_no (va_cons ve_ref (va_cons ve_ref va_nil)))))))) va_nil)))))) (fun _ _ _ _ _ => ve_var))
  (vb_cons (vs_setLc (own := [("one", 13)]) rfl sc_law.nd rfl rfl rfl (by rfl) (vi_seq ve_frz) (blk_of (by kernel_rfl!)) (by decide) (fun _ _ _ _ _ => (vg_name sc_law.nd rfl (by first | exact .inl rfl | exact .inr rfl) rfl)) (fun _ _ _ _ _ => (vts_one (vt_not (vt_of (c_any rfl m_any (va_cons (ve_lc (own := [("other", 14)]) rfl sc_law.nd (vi_seq ve_ref) (blk_of (by kernel_rfl!)) (by decide) (fun _ _ _ _ _ => (vg_name sc_law.nd rfl (by first | exact .inl rfl | exact .inr rfl) rfl)) (fun _ _ _ _ _ => vts_nil) (fun _ _ _ _ _ => (ve_fz (ve_and (n_ne hu ve_ref ve_ref) (ve_one (n_own o__law_part (hr.mono (by decide)) takes_no (va_cons ve_ref (va_cons ve_ref va_nil)))))))) va_nil)))))) (fun _ _ _ _ _ => ve_var))
  (vb_cons (vs_if ((vw_or (t_ne hu (c_sorted hu m_sorted (va_cons (n_own o_greatest (hr.mono (by decide)) takes_cx (va_cons ve_ref va_nil)) va_nil)) (c_sorted hu m_sorted (va_cons ve_ref va_nil))) (vw_or (t_ne hu (c_sorted hu m_sorted (va_cons (n_own o_least (hr.mono (by decide)) takes_cx (va_cons ve_ref va_nil)) va_nil)) (c_sorted hu m_sorted (va_cons ve_ref va_nil))) (vw_or1 (t_ne hu ve_ref ve_ref))))).vt (vb_one (vs_ret ve_bl)) vb_nil)
  (vb_cons (vs_unp (ve_tup (va_cons (ve_fz (n_own o__law_tuple (hr.mono (by decide)) takes_cx (va_cons ve_ref (va_cons ve_ref va_nil)))) (va_cons (ve_fz (n_own o__law_tuple (hr.mono (by decide)) takes_cx (va_cons ve_ref (va_cons ve_ref va_nil)))) va_nil))) (vg_tup rfl (vgs_cons (vg_name sc_law.nd rfl (by first | exact .inl rfl | exact .inr rfl) rfl) (vgs_cons (vg_name sc_law.nd rfl (by first | exact .inl rfl | exact .inr rfl) rfl) vgs_nil))))
  (vb_cons (vs_if (t_ne hu ve_ref (ve_lst va_nil)) (vb_one (vs_set sc_law.nd rfl (by first | exact .inl rfl | exact .inr rfl) rfl (n_ix ve_ref (n_own o__law_take (hr.mono (by decide)) takes_cx (va_cons ve_ref (va_cons (c_len m_len (va_cons ve_ref va_nil)) va_nil)))))) vb_nil)
  (vb_cons (vs_if (t_ne hu (n_own o_meet (hr.mono (by decide)) takes_cx (va_cons ve_ref (va_cons ve_ref va_nil))) (c_tuple m_tuple (va_cons (ve_lc (own := [("number", 15)]) rfl sc_law.nd (vi_seq ve_ref) (blk_of (by kernel_rfl!)) (by decide) (fun _ _ _ _ _ => (vg_name sc_law.nd rfl (by first | exact .inl rfl | exact .inr rfl) rfl)) (fun _ _ _ _ _ => (vts_one (t_in hu ve_ref ve_ref))) (fun _ _ _ _ _ => ve_var)) va_nil))) (vb_one (vs_ret ve_bl)) vb_nil)
  (vb_one (vs_for passes_cx rfl (vi_seq (ve_lst (va_cons ve_var (va_cons ve_var (va_cons (ve_tup va_nil) va_nil))))) (vg_name sc_law.nd rfl (by first | exact .inl rfl | exact .inr rfl) rfl)
  (vb_cons (vs_set sc_law.nd rfl (by first | exact .inl rfl | exact .inr rfl) rfl (c_all rfl m_all (va_cons (ve_lc (own := [("one", 13)]) rfl sc_law.nd (vi_seq ve_ref) (blk_of (by kernel_rfl!)) (by decide) (fun _ _ _ _ _ => (vg_name sc_law.nd rfl (by first | exact .inl rfl | exact .inr rfl) rfl)) (fun _ _ _ _ _ => vts_nil) (fun _ _ _ _ _ => (c_any rfl m_any (va_cons (ve_lc (own := [("number", 15)]) rfl sc_law.nd (vi_seq ve_ref) (blk_of (by kernel_rfl!)) (by decide) (fun _ _ _ _ _ => (vg_name sc_law.nd rfl (by first | exact .inl rfl | exact .inr rfl) rfl)) (fun _ _ _ _ _ => vts_nil) (fun _ _ _ _ _ => (n_in hu ve_ref ve_ref))) va_nil)))) va_nil)))
  (vb_cons (vs_set sc_law.nd rfl (by first | exact .inl rfl | exact .inr rfl) rfl (n_own o_meets_all (hr.mono (by decide)) takes_cx (va_cons ve_ref (va_cons ve_ref va_nil))))
  (vb_one (vs_if ((vw_or (vt_not (vt_of (ve_isi (by rfl) m_isinstance (by rfl) m_bool (by decide +kernel) kit_bool ve_ref))) (vw_or1 (t_ne hu ve_ref ve_ref)))).vt (vb_one (vs_ret ve_bl)) vb_nil)))) (pp_of rfl)))))))))))) (pp_of rfl))
  (vb_one (vs_ret ve_bl)))))
theorem ok_law {f : Addr} {fd : FuncData} (F : FnP K "law" st_law f fd) (m_all : mg "all" = none) (m_any : mg "any" = none) (m_bool : mg "bool" = none) (m_isinstance : mg "isinstance" = none) (m_len : mg "len" = none) (m_list : mg "list" = none) (m_range : mg "range" = none) (m_sorted : mg "sorted" = none) (m_tuple : mg "tuple" = none) (o__law_draws : OwnD P w K mg base C "_law_draws" 1 f__law_draws) (o__law_part : OwnD P w K mg base C "_law_part" 1 f__law_part) (o__law_sets : OwnD P w K mg base C "_law_sets" 3 f__law_sets) (o__law_take : OwnD P w K mg base C "_law_take" 1 f__law_take) (o__law_tuple : OwnD P w K mg base C "_law_tuple" 2 f__law_tuple) (o_greatest : OwnD P w K mg base C "greatest" 2 f_greatest) (o_least : OwnD P w K mg base C "least" 2 f_least) (o_meet : OwnD P w K mg base C "meet" 1 f_meet) (o_meets_all : OwnD P w K mg base C "meets_all" 1 f_meets_all) (g : mg "law" = some (.ref f)) : OwnD P w K mg base C "law" 4 f_law :=
  ⟨f, fd, ["script"], fk_law F m_all m_any m_bool m_isinstance m_len m_list m_range m_sorted m_tuple o__law_draws o__law_part o__law_sets o__law_take o__law_tuple o_greatest o_least o_meet o_meets_all, g, F.kp, F.bindsN fun _ _ _ _ _ _ us hl => match us, hl with | [_], _ => rfl⟩
end
end K94
set_option Elab.async false
set_option linter.all false
set_option maxRecDepth 100000
set_option maxHeartbeats 1000000
namespace K94
open PySem PySem.Spec PyProof.Rows L2 Fw
/-! ### the draws -/
theorem take_nil (b : Int) : f__law_take [Dr [], .fz (.int b)] = .ok (.fz (.int 0), [some (Dr []), some (.fz (.int b))]) := by
  simp [f__law_take, b__law_take, Dr]
theorem take_cons (L : List Int) (x b : Int) (hb : b ≠ 0) : f__law_take [Dr (L ++ [x]), .fz (.int b)] = .ok (.fz (.int (x.fmod b)), [some (Dr L), some (.fz (.int b))]) := by
  have h0 : ¬ ((L.length : Int) + 1 = 0) := by omega
  simp [f__law_take, b__law_take, Dr, hb, h0]
theorem take_ex (L : List Int) (b : Int) (hb : 0 < b) : ∃ (r : Int) (L' : List Int), f__law_take [Dr L, .fz (.int b)] = .ok (.fz (.int r), [some (Dr L'), some (.fz (.int b))]) ∧ 0 ≤ r ∧ r < b := by
  rcases List.eq_nil_or_concat L with rfl | ⟨L', x, rfl⟩
  · exact ⟨0, [], take_nil b, Int.le_refl _, hb⟩
  · rw [List.concat_eq_append]
    exact ⟨_, L', take_cons L' x b (by omega), Int.fmod_nonneg_of_pos _ hb, Int.fmod_lt_of_pos _ hb⟩
theorem l1_step (L : List Int) (x : Int) (a b c d e : Option Sv) (hz : L.length < 16777216) : ∃ L' x', l__law_draws_1 [a, some (Dr L), b, some (.fz (.int x)), c, d, e] = .next [a, some (Dr L'), b, some (.fz (.int x')), c, d, e] ∧ L'.length ≤ L.length + 1 := by
  by_cases h : 0 < x
  · refine ⟨L ++ [x.fmod 840], x.fdiv 840, ?_, by simp⟩
    simp [l__law_draws_1, Dr, h, hz]
  · exact ⟨L, x, by simp [l__law_draws_1, Dr, h], by omega⟩
theorem l1_loop (L : List Int) (x : Int) (a b c d e : Option Sv) (hz : L.length < 16700000) : ∃ L' x' d', forL (gNm 5) l__law_draws_1 (rangeD 0 60) [a, some (Dr L), b, some (.fz (.int x)), c, d, e] = .next [a, some (Dr L'), b, some (.fz (.int x')), c, d', e] ∧ L'.length ≤ L.length + 60 := by
  obtain ⟨e2, h1, L', x', d', rfl, h2⟩ := forL_ix (g := gNm 5) (body := l__law_draws_1) (ds := rangeD 0 60) (e := [a, some (Dr L), b, some (.fz (.int x)), c, d, e]) (fun i e2 => ∃ L' x' d', e2 = [a, some (Dr L'), b, some (.fz (.int x')), c, d', e] ∧ L'.length ≤ L.length + i) (fun i d0 hd e2 he => by
    obtain ⟨L', x', d', rfl, h2⟩ := he
    have hi : i < 60 := by
      have := (List.getElem?_eq_some_iff.mp hd).1
      simpa [rangeD] using this
    obtain ⟨L2, x2, h3, h4⟩ := l1_step L' x' a b c (some (.fz d0)) e (by omega)
    exact ⟨_, rfl, _, h3, L2, x2, _, rfl, by omega⟩) ⟨L, x, d, rfl, Nat.le_refl _⟩
  exact ⟨L', x', d', h1, by simpa [rangeD] using h2⟩
theorem l2_step (L : List Int) (x : Int) (b c d e : Option Sv) (hz : L.length < 16000000) : ∃ L' b' c' d', l__law_draws_2 [none, some (Dr L), some (.fz (.int x)), b, c, d, e] = .next [none, some (Dr L'), some (.fz (.int x)), b', c', d', e] ∧ L'.length ≤ L.length + 62 := by
  by_cases h : (if x < 0 then -x else x) < 1000000000000000000
  · obtain ⟨L', x', d', h1, h2⟩ := l1_loop (L ++ [((((if x < 0 then -x else x) * 48271 + 11).fmod 2147483647) * 69621 + (if x < 0 then -x else x)).fmod 2147483629, ((((if x < 0 then -x else x) * 48271 + 11).fmod 2147483647) + (if x < 0 then -x else x).fdiv 7).fmod 1000003]) 0 none (some (.fz (.int x))) (some (.fz (.int (((if x < 0 then -x else x) * 48271 + 11).fmod 2147483647)))) d e (by simp; omega)
    refine ⟨L', some (.fz (.int x')), some (.fz (.int (((if x < 0 then -x else x) * 48271 + 11).fmod 2147483647))), d', ?_, by simp at h2; omega⟩
    have hz1 : L.length < 16777216 := by omega
    have hz2 : L.length + 1 < 16777216 := by omega
    simp [l__law_draws_2, Dr, h, hz1, hz2] at h1 ⊢
    simp [small62, h1]
  · obtain ⟨L', x', d', h1, h2⟩ := l1_loop L (if x < 0 then -x else x) none (some (.fz (.int x))) c d e (by omega)
    refine ⟨L', some (.fz (.int x')), c, d', ?_, by omega⟩
    simp [l__law_draws_2, Dr, h] at h1 ⊢
    simp [small62, h1]
theorem l3_step (L : List Int) (x : Int) (a b c d f : Option Sv) (hz : L.length < 16777216) : ∃ L' x', l__law_draws_3 [a, some (Dr L), b, c, d, f, some (.fz (.int x))] = .next [a, some (Dr L'), b, c, d, f, some (.fz (.int x'))] ∧ L'.length ≤ L.length + 1 := by
  refine ⟨L ++ [((x * 48271 + 69621).fmod 2147483647).fdiv 5], (x * 48271 + 69621).fmod 2147483647, ?_, by simp⟩
  simp [l__law_draws_3, Dr, hz]
theorem l3_loop (L : List Int) (x : Int) (a b c d f : Option Sv) (hz : L.length < 16000000) : ∃ L' x' f', forL (gNm 5) l__law_draws_3 (rangeD 0 200) [a, some (Dr L), b, c, d, f, some (.fz (.int x))] = .next [a, some (Dr L'), b, c, d, f', some (.fz (.int x'))] ∧ L'.length ≤ L.length + 200 := by
  obtain ⟨e2, h1, L', x', f', rfl, h2⟩ := forL_ix (g := gNm 5) (body := l__law_draws_3) (ds := rangeD 0 200) (e := [a, some (Dr L), b, c, d, f, some (.fz (.int x))]) (fun i e2 => ∃ L' x' f', e2 = [a, some (Dr L'), b, c, d, f', some (.fz (.int x'))] ∧ L'.length ≤ L.length + i) (fun i d0 hd e2 he => by
    obtain ⟨L', x', f', rfl, h2⟩ := he
    have hi : i < 200 := by
      have := (List.getElem?_eq_some_iff.mp hd).1
      simpa [rangeD] using this
    obtain ⟨L2, x2, h3, h4⟩ := l3_step L' x' a b c d (some (.fz d0)) (by omega)
    exact ⟨_, rfl, _, h3, L2, x2, _, rfl, by omega⟩) ⟨L, x, f, rfl, Nat.le_refl _⟩
  exact ⟨L', x', f', h1, by simpa [rangeD] using h2⟩
theorem draws_ex (ns : List Int) (h : ns.length ≤ 63) : ∃ L e, f__law_draws [.fz (.lst (ns.map .int))] = .ok (Dr L, e) ∧ e = [some (.fz (.lst (ns.map .int)))] := by
  have loop : ∃ L b c d f, forL (gNm 2) l__law_draws_2 (ns.map .int) [none, some (Dr []), none, none, none, none, none] = .next [none, some (Dr L), b, c, d, f, none] ∧ L.length ≤ 62 * 63 := by
    obtain ⟨e2, h1, L', b, c, d, f, rfl, h2⟩ := forL_ix (g := gNm 2) (body := l__law_draws_2) (ds := ns.map .int) (e := [none, some (Dr []), none, none, none, none, none]) (fun i e2 => ∃ L' b c d f, e2 = [none, some (Dr L'), b, c, d, f, none] ∧ L'.length ≤ 62 * i) (fun i d0 hd e2 he => by
      obtain ⟨L', b, c, d, f, rfl, h2⟩ := he
      have hi : i < 63 := by
        have := (List.getElem?_eq_some_iff.mp hd).1
        simp at this
        omega
      rw [List.getElem?_map] at hd
      obtain ⟨x, _, rfl⟩ := Option.map_eq_some_iff.mp hd
      obtain ⟨L2, b2, c2, d2, h3, h4⟩ := l2_step L' x c d f none (by omega)
      exact ⟨_, rfl, _, h3, L2, _, _, _, _, rfl, by omega⟩) ⟨[], none, none, none, none, rfl, Nat.le_refl _⟩
    refine ⟨L', b, c, d, f, h1, ?_⟩
    simp at h2
    omega
  obtain ⟨L, b, c, d, f, h1, h2⟩ := loop
  have fin : ∀ x : Int, ∃ L' x' f', forL (gNm 5) l__law_draws_3 (rangeD 0 200) [some (.fz (.lst (ns.map .int))), some (Dr L), b, c, d, f, some (.fz (.int x))] = .next [some (.fz (.lst (ns.map .int))), some (Dr L'), b, c, d, f', some (.fz (.int x'))] ∧ L'.length ≤ L.length + 200 := fun x => l3_loop L x _ b c d f (by omega)
  cases ns with
  | nil =>
    obtain ⟨L', x', f', h3, _⟩ := fin 1
    refine ⟨L'.reverse, _, ?_, rfl⟩
    simp [f__law_draws, b__law_draws, Dr] at h1 h3 ⊢
    simp [small62, h1, h3]
  | cons n ns =>
    obtain ⟨L', x', f', h3, _⟩ := fin (1 + if n < 0 then -n else n)
    refine ⟨L'.reverse, _, ?_, rfl⟩
    have h0 : (0 : Int) < (ns.length : Int) + 1 := by omega
    simp [f__law_draws, b__law_draws, Dr] at h1 h3 ⊢
    simp [small62, h1, h0, h3, atI, ixN]
end K94
set_option Elab.async false
set_option linter.all false
set_option maxRecDepth 100000
set_option maxHeartbeats 1000000
namespace K94
open PySem PySem.Spec PyProof.Rows L2 Fw
theorem tup_step (L N : List Int) (m : Int) (t : Option Sv) (hm : 0 < m) (hz : N.length < 16777216) : ∃ L' r, l__law_tuple_1 [some (Dr L), some (.fz (.int m)), some (Dr N), t] = .next [some (Dr L'), some (.fz (.int m)), some (Dr (N ++ [r])), t] ∧ 0 ≤ r ∧ r < m := by
  obtain ⟨r, L', h1, h2, h3⟩ := take_ex L m hm
  refine ⟨L', r, ?_, h2, h3⟩
  simp [l__law_tuple_1, Dr] at h1 ⊢
  simp [h1, hz]
theorem tup_loop (L : List Int) (m : Int) (hm : 0 < m) (k : Nat) (hk : k < 64) : ∃ L' N t, forL (gNm 3) l__law_tuple_1 (rangeD 0 k) [some (Dr L), some (.fz (.int m)), some (Dr []), none] = .next [some (Dr L'), some (.fz (.int m)), some (Dr N), t] ∧ N.length ≤ k ∧ ∀ n ∈ N, 0 ≤ n ∧ n < m := by
  obtain ⟨e2, h1, L', N, t, rfl, h2, h3⟩ := forL_ix (g := gNm 3) (body := l__law_tuple_1) (ds := rangeD 0 k) (e := [some (Dr L), some (.fz (.int m)), some (Dr []), none]) (fun i e2 => ∃ L' N t, e2 = [some (Dr L'), some (.fz (.int m)), some (Dr N), t] ∧ N.length ≤ i ∧ ∀ n ∈ N, 0 ≤ n ∧ n < m) (fun i d0 hd e2 he => by
    obtain ⟨L', N, t, rfl, h2, h3⟩ := he
    have hi : i < k := by
      have := (List.getElem?_eq_some_iff.mp hd).1
      simpa [rangeD] using this
    obtain ⟨L2, r, h4, h5, h6⟩ := tup_step L' N m (some (.fz d0)) hm (by omega)
    refine ⟨_, rfl, _, h4, L2, N ++ [r], _, rfl, by simp; omega, fun n hn => ?_⟩
    rcases List.mem_append.mp hn with hn | hn
    · exact h3 n hn
    · rw [List.mem_singleton.mp hn]; exact ⟨h5, h6⟩) ⟨L, [], none, rfl, Nat.le_refl _, fun n hn => nomatch hn⟩
  exact ⟨L', N, t, h1, by simpa [rangeD] using h2, h3⟩
/-- strictly rising, from 0 to below m -/
structure Up (m : Int) (ns : List Int) : Prop where
  lt : ns.Pairwise (· < ·)
  bd : ∀ n ∈ ns, 0 ≤ n ∧ n < m
  few : ns.length ≤ 64
theorem tuple_ex (L : List Int) (m : Int) (hm : 0 < m) : ∃ L' ns, f__law_tuple [Dr L, .fz (.int m)] = .ok (.fz (T ns), [some (Dr L'), some (.fz (.int m))]) ∧ Up m ns := by
  obtain ⟨r, L1, h1, h2, h3⟩ := take_ex L 9 (by omega)
  obtain ⟨k, rfl⟩ := Int.eq_ofNat_of_zero_le h2
  obtain ⟨L', N, t, h4, h5, h6⟩ := tup_loop L1 m hm k (by omega)
  refine ⟨L', uniq N, ?_, uniq_lt, fun n hn => h6 n (uniq_mem.mp hn), Nat.le_trans (uniq_len N) (by omega)⟩
  have hs : small62 (k : Int) = true := small_of (by omega) (by omega)
  have hN : N.length < 64 := by omega
  refine fn_ret (e := [some (Dr L), some (.fz (.int m)), none, none]) (e1 := [some (Dr L'), some (.fz (.int m)), some (Dr N), t]) rfl rfl ?_
  unfold b__law_tuple
  refine (seq_next (e1 := [some (Dr L), some (.fz (.int m)), some (Dr []), none]) rfl).trans ?_
  refine (seq_next (e1 := [some (Dr L'), some (.fz (.int m)), some (Dr N), t]) (for_next (as := [.v (.fz (.int k))]) (e1 := [some (Dr L1), some (.fz (.int m)), some (Dr []), none]) (cons_ok (own_ok (cons_ok rfl (cons_ok rfl rfl)) rfl h1) rfl) rfl (items := rangeD 0 k) (by simp only [gR1, hs, if_true]; rfl) rfl h4)).trans ?_
  have e1 : gSortSet [Dr N] = some (Dr (uniq N), [Dr N]) := by simp [gSortSet, hN, Dr]
  have e2 : gTuple [Dr (uniq N)] = some (.fz (T (uniq N)), [Dr (uniq N)]) := by simp [Dr]
  have e3 : eCall gSortSet (aCons (eRef 2) aNil) [some (Dr L'), some (.fz (.int m)), some (Dr N), t] = .ok (.v (Dr (uniq N)), [some (Dr L'), some (.fz (.int m)), some (Dr N), t]) := call_ok (as := [.r 2]) (e1 := [some (Dr L'), some (.fz (.int m)), some (Dr N), t]) rfl rfl e1 rfl
  exact ret_ret (call_ok (as := [.v (Dr (uniq N))]) (e1 := [some (Dr L'), some (.fz (.int m)), some (Dr N), t]) (cons_ok e3 rfl) rfl e2 rfl)
end K94
set_option Elab.async false
set_option linter.all false
set_option maxRecDepth 100000
set_option maxHeartbeats 1000000
namespace K94
open PySem PySem.Spec PyProof.Rows L2 Fw
theorem own_take0 {L L' : List Int} {b r : Int} {rest : Fw.Env} (h : f__law_take [Dr L, .fz (.int b)] = .ok (.fz (.int r), [some (Dr L'), some (.fz (.int b))])) :
    eOwn f__law_take (aCons (eRef 0) (aCons (eC (.int b)) aNil)) (some (Dr L) :: rest) = .ok (.v (.fz (.int r)), some (Dr L') :: rest) :=
  own_ok (as := [.r 0, .v (.fz (.int b))]) (e1 := some (Dr L) :: rest) (e2 := none :: rest) rfl rfl h
theorem own_take1 {L L' : List Int} {b r : Int} {x : Option Sv} {rest : Fw.Env} (h : f__law_take [Dr L, .fz (.int b)] = .ok (.fz (.int r), [some (Dr L'), some (.fz (.int b))])) :
    eOwn f__law_take (aCons (eRef 1) (aCons (eC (.int b)) aNil)) (x :: some (Dr L) :: rest) = .ok (.v (.fz (.int r)), x :: some (Dr L') :: rest) :=
  own_ok (as := [.r 1, .v (.fz (.int b))]) (e1 := x :: some (Dr L) :: rest) (e2 := x :: none :: rest) rfl rfl h
/-- part of a tuple, as the draws tell -/
theorem part_ex (L : List Int) (m u o : Option Sv) (rows : List (List Int)) (ns : List Int) : ∃ (L' sub : List Int), compL (gNm 5) t__law_sets_1 x__law_sets_2 [5] (ns.map .int) [some (Dr L), m, some (DT rows), u, o, none] = .ok (sub.map fun i => .fz (.int i), [some (Dr L'), m, some (DT rows), u, o, none]) ∧ sub.Sublist ns := by
  obtain ⟨sub, e', h1, ⟨L', rfl⟩, h2⟩ := compL_inv (g := gNm 5) (t := t__law_sets_1) (elt := x__law_sets_2) (own := [5]) (fun e => ∃ L', e = [some (Dr L'), m, some (DT rows), u, o, none]) Sv.fz (ds := ns.map .int) (e := [some (Dr L), m, some (DT rows), u, o, none]) ⟨L, rfl⟩ (fun d hd e he => by
    obtain ⟨L', rfl⟩ := he
    obtain ⟨r, L2, h1, h2, h3⟩ := take_ex L' 3 (by omega)
    refine ⟨_, rfl, decide (0 < r), [some (Dr L2), m, some (DT rows), u, o, some (.fz d)], ?_, fun _ => ⟨L2, rfl⟩, fun _ => ⟨_, rfl, L2, rfl⟩⟩
    exact bl_ok (bin_ok (b := .v (.fz (.int 0))) (own_take0 h1) rfl (ss := [.fz (.int r), .fz (.int 0)]) rfl (by simp) rfl))
  obtain ⟨l, hl, rfl⟩ := List.sublist_map_iff.mp h2
  exact ⟨L', l, by rw [h1, List.map_map]; rfl, hl⟩
theorem Up.sub {m : Int} {a b : List Int} (h : Up m b) (s : a.Sublist b) : Up m a := ⟨h.1.sublist s, fun n hn => h.2 n (s.subset hn), Nat.le_trans s.length_le h.3⟩
theorem DT_app (rows : List (List Int)) (x : List Int) : Sv.lst ((rows.map fun x => Sv.fz (T x)) ++ [.fz (T x)]) = DT (rows ++ [x]) := by simp [DT]
/-- the last part of a turn -/
theorem sets_end (L : List Int) (m : Int) (rows : List (List Int)) (ns : List Int) (u : Option Sv) (hz : rows.length < 100) : ∃ rows', sIf (tBl (eBin gNotIn (eRef 4) (eRef 2))) (sDrop (eMeth "list" gApp (eRef 2) (aCons (eVar 4) aNil))) sNext [some (Dr L), some (.fz (.int m)), some (DT rows), u, some (.fz (T ns)), none] = .next [some (Dr L), some (.fz (.int m)), some (DT rows'), u, some (.fz (T ns)), none] ∧ (rows' = rows ∨ (rows' = rows ++ [ns] ∧ ns ∉ rows)) := by
  have h1 : tBl (eBin gNotIn (eRef 4) (eRef 2)) [some (Dr L), some (.fz (.int m)), some (DT rows), u, some (.fz (T ns)), none] = .ok (!decide (ns ∈ rows), [some (Dr L), some (.fz (.int m)), some (DT rows), u, some (.fz (T ns)), none]) := by
    refine bl_ok (bin_ok (a := .r 4) (b := .r 2) (e1 := [some (Dr L), some (.fz (.int m)), some (DT rows), u, some (.fz (T ns)), none]) (e2 := [some (Dr L), some (.fz (.int m)), some (DT rows), u, some (.fz (T ns)), none]) rfl rfl (ss := [.fz (T ns), DT rows]) (ss' := [.fz (T ns), DT rows]) rfl ?_ rfl)
    simp [DT, gNotIn]
  by_cases h : ns ∈ rows
  · rw [decide_eq_true h] at h1
    exact ⟨rows, if_f h1, .inl rfl⟩
  · rw [decide_eq_false h] at h1
    refine ⟨rows ++ [ns], (if_t h1).trans ?_, .inr ⟨rfl, h⟩⟩
    have hz : rows.length < 16777216 := by omega
    rw [← DT_app]
    simp [DT, hz]
def Sets (m : Int) (rows : List (List Int)) : Prop := rows.Nodup ∧ ∀ r ∈ rows, Up m r
theorem Sets.add {m : Int} {rows rows' : List (List Int)} {ns : List Int} (h : Sets m rows) (hn : Up m ns) (q : rows' = rows ∨ (rows' = rows ++ [ns] ∧ ns ∉ rows)) : Sets m rows' ∧ rows'.length ≤ rows.length + 1 := by
  rcases q with rfl | ⟨rfl, q⟩
  · exact ⟨h, Nat.le_succ _⟩
  · refine ⟨⟨List.nodup_append.mpr ⟨h.1, List.pairwise_singleton _ _, fun a ha b hb e => ?_⟩, fun r hr => ?_⟩, by simp⟩
    · rw [List.mem_singleton.mp hb] at e
      subst e
      exact q ha
    · rcases List.mem_append.mp hr with hr | hr
      · exact h.2 r hr
      · rw [List.mem_singleton.mp hr]; exact hn
theorem own_take0' {L L' : List Int} {b r : Int} {fb : Ex} {rest : Fw.Env} (hb : fb (some (Dr L) :: rest) = .ok (.v (.fz (.int b)), some (Dr L) :: rest)) (h : f__law_take [Dr L, .fz (.int b)] = .ok (.fz (.int r), [some (Dr L'), some (.fz (.int b))])) :
    eOwn f__law_take (aCons (eRef 0) (aCons fb aNil)) (some (Dr L) :: rest) = .ok (.v (.fz (.int r)), some (Dr L') :: rest) :=
  own_ok (as := [.r 0, .v (.fz (.int b))]) (e1 := some (Dr L) :: rest) (e2 := none :: rest) (cons_ok rfl (cons_ok hb rfl)) rfl h
theorem own_take1' {L L' : List Int} {b r : Int} {fb : Ex} {x : Option Sv} {rest : Fw.Env} (hb : fb (x :: some (Dr L) :: rest) = .ok (.v (.fz (.int b)), x :: some (Dr L) :: rest)) (h : f__law_take [Dr L, .fz (.int b)] = .ok (.fz (.int r), [some (Dr L'), some (.fz (.int b))])) :
    eOwn f__law_take (aCons (eRef 1) (aCons fb aNil)) (x :: some (Dr L) :: rest) = .ok (.v (.fz (.int r)), x :: some (Dr L') :: rest) :=
  own_ok (as := [.r 1, .v (.fz (.int b))]) (e1 := x :: some (Dr L) :: rest) (e2 := x :: none :: rest) (cons_ok rfl (cons_ok hb rfl)) rfl h
theorem ix_DT {rows : List (List Int)} {r : Int} (h0 : 0 ≤ r) (h1 : r < rows.length) : ∃ ns, ns ∈ rows ∧ gIx [DT rows, .fz (.int r)] = some (.fz (T ns), [DT rows, .fz (.int r)]) := by
  obtain ⟨k, rfl⟩ := Int.eq_ofNat_of_zero_le h0
  have hk : k < rows.length := by omega
  refine ⟨rows[k], List.getElem_mem hk, ?_⟩
  have e : atI (rows.map T) (k : Int) = some (T rows[k]) := by
    unfold atI ixN
    simp [hk]
  simp [DT, e]
theorem sets_step (L : List Int) (m : Int) (rows : List (List Int)) (u o : Option Sv) (hm : 0 < m) (hr : Sets m rows) (hz : rows.length < 100) : ∃ L' rows' o', l__law_sets_3 [some (Dr L), some (.fz (.int m)), some (DT rows), u, o, none] = .next [some (Dr L'), some (.fz (.int m)), some (DT rows'), u, o', none] ∧ Sets m rows' ∧ rows'.length ≤ rows.length + 1 := by
  obtain ⟨L1, ns, h1, h2⟩ := tuple_ex L m hm
  unfold l__law_sets_3
  have s1 : sSet 4 (eOwn f__law_tuple (aCons (eRef 0) (aCons (eRef 1) aNil))) [some (Dr L), some (.fz (.int m)), some (DT rows), u, o, none] = .next [some (Dr L1), some (.fz (.int m)), some (DT rows), u, some (.fz (T ns)), none] :=
    set_next (e1 := [some (Dr L1), some (.fz (.int m)), some (DT rows), u, o, none]) (own_ok (as := [.r 0, .r 1]) (e1 := [some (Dr L), some (.fz (.int m)), some (DT rows), u, o, none]) (e2 := [none, none, some (DT rows), u, o, none]) rfl rfl h1) (by simp)
  rw [seq_next s1]
  have t1 : tBl (eBin gNe (eRef 2) (eLst aNil)) [some (Dr L1), some (.fz (.int m)), some (DT rows), u, some (.fz (T ns)), none] = .ok (!decide (rows = []), [some (Dr L1), some (.fz (.int m)), some (DT rows), u, some (.fz (T ns)), none]) := by
    refine bl_ok (bin_ok (a := .r 2) (b := .v (.lst [])) (e1 := [some (Dr L1), some (.fz (.int m)), some (DT rows), u, some (.fz (T ns)), none]) (e2 := [some (Dr L1), some (.fz (.int m)), some (DT rows), u, some (.fz (T ns)), none]) rfl rfl (ss := [DT rows, .lst []]) (ss' := [DT rows, .lst []]) rfl ?_ rfl)
    simp [DT]
  obtain ⟨r2, L2, h3, h4, h5⟩ := take_ex L1 3 (by omega)
  have t2 : tBl (eBin gEq (eOwn f__law_take (aCons (eRef 0) (aCons (eC (.int 3)) aNil))) (eC (.int 0))) [some (Dr L1), some (.fz (.int m)), some (DT rows), u, some (.fz (T ns)), none] = .ok (decide (r2 = 0), [some (Dr L2), some (.fz (.int m)), some (DT rows), u, some (.fz (T ns)), none]) :=
    bl_ok (bin_ok (b := .v (.fz (.int 0))) (own_take0 h3) rfl (ss := [.fz (.int r2), .fz (.int 0)]) rfl (by simp) rfl)
  have fin : ∀ (L' : List Int) (ns' : List Int), Up m ns' → ∃ L'' rows' o', sIf (tBl (eBin gNotIn (eRef 4) (eRef 2))) (sDrop (eMeth "list" gApp (eRef 2) (aCons (eVar 4) aNil))) sNext [some (Dr L'), some (.fz (.int m)), some (DT rows), u, some (.fz (T ns')), none] = .next [some (Dr L''), some (.fz (.int m)), some (DT rows'), u, o', none] ∧ Sets m rows' ∧ rows'.length ≤ rows.length + 1 := fun L' ns' hu => by
    obtain ⟨rows', h6, h7⟩ := sets_end L' m rows ns' u hz
    exact ⟨L', rows', _, h6, hr.add hu h7⟩
  by_cases hr0 : rows = []
  · rw [decide_eq_true hr0] at t1
    have c : tAndX (tBl (eBin gNe (eRef 2) (eLst aNil))) (tBl (eBin gEq (eOwn f__law_take (aCons (eRef 0) (aCons (eC (.int 3)) aNil))) (eC (.int 0)))) [some (Dr L1), some (.fz (.int m)), some (DT rows), u, some (.fz (T ns)), none] = .ok (false, [some (Dr L1), some (.fz (.int m)), some (DT rows), u, some (.fz (T ns)), none]) := by
      unfold tAndX
      rw [t1]
      rfl
    obtain ⟨L'', rows', o', h6, h7⟩ := fin L1 ns h2
    exact ⟨L'', rows', o', (seq_next ((if_f c).trans rfl)).trans h6, h7⟩
  · rw [decide_eq_false hr0] at t1
    have c : tAndX (tBl (eBin gNe (eRef 2) (eLst aNil))) (tBl (eBin gEq (eOwn f__law_take (aCons (eRef 0) (aCons (eC (.int 3)) aNil))) (eC (.int 0)))) [some (Dr L1), some (.fz (.int m)), some (DT rows), u, some (.fz (T ns)), none] = .ok (decide (r2 = 0), [some (Dr L2), some (.fz (.int m)), some (DT rows), u, some (.fz (T ns)), none]) := by
      unfold tAndX
      rw [t1]
      exact t2
    by_cases h0 : r2 = 0
    · rw [decide_eq_true h0] at c
      have hpos : 0 < (rows.length : Int) := by
        have := List.length_pos_iff.mpr hr0
        omega
      obtain ⟨r3, L3, h6, h7, h8⟩ := take_ex L2 rows.length hpos
      obtain ⟨ms, hms, hix⟩ := ix_DT h7 h8
      obtain ⟨L4, sub, h9, h10⟩ := part_ex L3 (some (.fz (.int m))) u (some (.fz (T ns))) rows ms
      have hlen : eCall gLen (aCons (eRef 2) aNil) [some (Dr L2), some (.fz (.int m)), some (DT rows), u, some (.fz (T ns)), none] = .ok (.v (.fz (.int rows.length)), [some (Dr L2), some (.fz (.int m)), some (DT rows), u, some (.fz (T ns)), none]) :=
        call_ok (as := [.r 2]) (e1 := [some (Dr L2), some (.fz (.int m)), some (DT rows), u, some (.fz (T ns)), none]) rfl rfl (ss' := [DT rows]) (by simp [DT]) rfl
      have hsub : sub.length ≤ 1000000 := by
        have h11 := h10.length_le
        have : ms.length ≤ 64 := (hr.2 ms hms).few
        omega
      have a1 : eBin gIx (eRef 2) (eOwn f__law_take (aCons (eRef 0) (aCons (eCall gLen (aCons (eRef 2) aNil)) aNil))) [some (Dr L2), some (.fz (.int m)), some (DT rows), u, some (.fz (T ns)), none] = .ok (.v (.fz (T ms)), [some (Dr L3), some (.fz (.int m)), some (DT rows), u, some (.fz (T ns)), none]) :=
        bin_ok (a := .r 2) (e1 := [some (Dr L2), some (.fz (.int m)), some (DT rows), u, some (.fz (T ns)), none]) (e2 := [some (Dr L3), some (.fz (.int m)), some (DT rows), u, some (.fz (T ns)), none]) rfl (own_take0' hlen h6) rfl hix rfl
      have a2 : eLc (aOne (eBin gIx (eRef 2) (eOwn f__law_take (aCons (eRef 0) (aCons (eCall gLen (aCons (eRef 2) aNil)) aNil))))) (one elems) [5] (gNm 5) t__law_sets_1 x__law_sets_2 [some (Dr L2), some (.fz (.int m)), some (DT rows), u, some (.fz (T ns)), none] = .ok (.v (Dr sub), [some (Dr L4), some (.fz (.int m)), some (DT rows), u, some (.fz (T ns)), none]) :=
        lc_ok (one_ok a1) rfl (items := ms.map .int) (by simp) h9 (by rw [List.length_map]; exact hsub)
      have a3 : gTuple [Dr sub] = some (.fz (T sub), [Dr sub]) := by simp [Dr]
      have a4 := set_next (i := 4) (e1 := [some (Dr L4), some (.fz (.int m)), some (DT rows), u, some (.fz (T ns)), none]) (call_ok (as := [.v (Dr sub)]) (e1 := [some (Dr L4), some (.fz (.int m)), some (DT rows), u, some (.fz (T ns)), none]) (cons_ok (g := aNil) a2 rfl) rfl a3 rfl) (by simp)
      obtain ⟨L'', rows', o', h12, h13⟩ := fin L4 sub ((hr.2 ms hms).sub h10)
      exact ⟨L'', rows', o', (seq_next ((if_t c).trans a4)).trans h12, h13⟩
    · rw [decide_eq_false h0] at c
      obtain ⟨L'', rows', o', h6, h7⟩ := fin L2 ns h2
      exact ⟨L'', rows', o', (seq_next ((if_f c).trans rfl)).trans h6, h7⟩
theorem sets_ex (L : List Int) (m : Int) (hm : 0 < m) : ∃ L' rows, f__law_sets [Dr L, .fz (.int m)] = .ok (DT rows, [some (Dr L'), some (.fz (.int m))]) ∧ Sets m rows ∧ rows.length ≤ 24 := by
  obtain ⟨r, L1, h1, h2, h3⟩ := take_ex L 5 (by omega)
  have key : ∃ k : Nat, k ≤ 24 ∧ gIx [.lst [.fz (.int 0), .fz (.int 1), .fz (.int 4), .fz (.int 9), .fz (.int 24)], .fz (.int r)] = some (.fz (.int k), [.lst [.fz (.int 0), .fz (.int 1), .fz (.int 4), .fz (.int 9), .fz (.int 24)], .fz (.int r)]) := by
    have : r = 0 ∨ r = 1 ∨ r = 2 ∨ r = 3 ∨ r = 4 := by omega
    rcases this with rfl | rfl | rfl | rfl | rfl
    · exact ⟨0, by omega, rfl⟩
    · exact ⟨1, by omega, rfl⟩
    · exact ⟨4, by omega, rfl⟩
    · exact ⟨9, by omega, rfl⟩
    · exact ⟨24, by omega, rfl⟩
  obtain ⟨k, hk, hix⟩ := key
  have loop : ∃ L' rows u o, forL (gNm 3) l__law_sets_3 (rangeD 0 k) [some (Dr L1), some (.fz (.int m)), some (DT []), none, none, none] = .next [some (Dr L'), some (.fz (.int m)), some (DT rows), u, o, none] ∧ Sets m rows ∧ rows.length ≤ k := by
    obtain ⟨e2, h1, L', rows, u, o, rfl, h2, h3⟩ := forL_ix (g := gNm 3) (body := l__law_sets_3) (ds := rangeD 0 k) (e := [some (Dr L1), some (.fz (.int m)), some (DT []), none, none, none]) (fun i e2 => ∃ L' rows u o, e2 = [some (Dr L'), some (.fz (.int m)), some (DT rows), u, o, none] ∧ Sets m rows ∧ rows.length ≤ i) (fun i d0 hd e2 he => by
      obtain ⟨L', rows, u, o, rfl, h2, h3⟩ := he
      have hi : i < k := by
        have := (List.getElem?_eq_some_iff.mp hd).1
        simpa [rangeD] using this
      obtain ⟨L2, rows2, o2, h4, h5, h6⟩ := sets_step L' m rows (some (.fz d0)) o hm h2 (by omega)
      exact ⟨_, rfl, _, h4, L2, rows2, _, o2, rfl, h5, by omega⟩) ⟨L1, [], none, none, rfl, ⟨List.nodup_nil, fun r hr => nomatch hr⟩, Nat.le_refl _⟩
    exact ⟨L', rows, u, o, h1, h2, by simpa [rangeD] using h3⟩
  obtain ⟨L', rows, u, o, h4, h5, h6⟩ := loop
  have hs : small62 (k : Int) = true := small_of (by omega) (by omega)
  refine ⟨L', rows, ?_, h5, by omega⟩
  refine fn_ret (e := [some (Dr L), some (.fz (.int m)), none, none, none, none]) (e1 := [some (Dr L'), some (.fz (.int m)), none, u, o, none]) rfl rfl ?_
  unfold b__law_sets
  refine (seq_next (e1 := [some (Dr L), some (.fz (.int m)), some (DT []), none, none, none]) rfl).trans ?_
  have a1 : eBin gIx (eLst (aCons (eC (.int 0)) (aCons (eC (.int 1)) (aCons (eC (.int 4)) (aCons (eC (.int 9)) (aCons (eC (.int 24)) aNil)))))) (eOwn f__law_take (aCons (eRef 0) (aCons (eC (.int 5)) aNil))) [some (Dr L), some (.fz (.int m)), some (DT []), none, none, none] = .ok (.v (.fz (.int k)), [some (Dr L1), some (.fz (.int m)), some (DT []), none, none, none]) :=
    bin_ok (a := .v (.lst [.fz (.int 0), .fz (.int 1), .fz (.int 4), .fz (.int 9), .fz (.int 24)])) (e1 := [some (Dr L), some (.fz (.int m)), some (DT []), none, none, none]) rfl (own_take0 h1) rfl hix rfl
  refine (seq_next (for_next (cons_ok a1 rfl) rfl (items := rangeD 0 k) (by simp only [gR1, hs, if_true]; rfl) rfl h4)).trans ?_
  rfl
end K94
set_option Elab.async false
set_option linter.all false
set_option maxRecDepth 100000
set_option maxHeartbeats 1000000
namespace K94
open PySem PySem.Spec PyProof.Rows L2 Fw
/-! ### masks -/
def msk (ns : List Int) : Nat := (ns.map fun n => 2 ^ n.toNat).sum
theorem msk_cons (n : Int) (ns : List Int) : msk (n :: ns) = 2 ^ n.toNat + msk ns := by simp [msk]
theorem msk_high : ∀ {ns : List Int} {k : Nat}, (∀ n ∈ ns, (k : Int) ≤ n) → ∃ q, msk ns = 2 ^ k * q
  | [], k, _ => ⟨0, by simp [msk]⟩
  | n :: ns, k, h => by
    obtain ⟨q, hq⟩ := msk_high (ns := ns) (k := k) fun x hx => h x (List.mem_cons_of_mem _ hx)
    have hn := h n List.mem_cons_self
    refine ⟨2 ^ (n.toNat - k) + q, ?_⟩
    rw [msk_cons, hq, Nat.mul_add, ← Nat.pow_add]
    congr 2
    omega
theorem msk_bit : ∀ {ns : List Int}, ns.Pairwise (· < ·) → (∀ n ∈ ns, 0 ≤ n) → ∀ i : Nat, (msk ns).testBit i = decide ((i : Int) ∈ ns)
  | [], _, _, i => by simp [msk]
  | n :: ns, h, h0, i => by
    obtain ⟨h1, h2⟩ := List.pairwise_cons.mp h
    have hn := h0 n List.mem_cons_self
    have ih := msk_bit h2 (fun x hx => h0 x (List.mem_cons_of_mem _ hx)) i
    obtain ⟨q, hq⟩ := msk_high (ns := ns) (k := n.toNat + 1) fun x hx => by have := h1 x hx; omega
    have e : msk (n :: ns) = msk ns ||| 2 ^ n.toNat := by
      rw [msk_cons, Nat.add_comm, hq]
      exact Nat.two_pow_add_eq_or_of_lt (Nat.pow_lt_pow_right (by omega) (by omega)) q
    rw [e, Nat.testBit_or, ih, Nat.testBit_two_pow]
    by_cases hi : n.toNat = i
    · have : (i : Int) = n := by omega
      simp [hi, this]
    · have : ¬ (i : Int) = n := by omega
      simp [hi, this]
theorem sum_Dr (L : List Int) : gSum [Dr L] = some (.fz (.int L.sum), [Dr L]) := by simp [Dr]
theorem mask_ok {m : Int} {ns : List Int} (h : Up m ns) (hm : m ≤ 1000) : f_mask_of [.fz (T ns)] = .ok (.fz (.int (msk ns)), [some (.fz (T ns))]) := by
  have h1 : compL (gNm 1) tYesX x_mask_of_1 [1] (ns.map .int) [none, none] = .ok (((ns.map Dt.int).filter fun _ => true).map (fun d => match d with | .int n => Sv.fz (.int (1 * 2 ^ n.toNat)) | _ => .fz .non), [none, none]) :=
    compL_map (fun _ => true) _ fun d hd => by
      obtain ⟨n, hn, rfl⟩ := List.mem_map.mp hd
      have hb := h.bd n hn
      refine ⟨_, rfl, _, rfl, (fun z => nomatch z), fun _ => ⟨[none, some (.fz (.int n))], ?_, rfl⟩⟩
      exact bin_ok (a := .v (.fz (.int 1))) (b := .r 1) (e1 := [none, some (.fz (.int n))]) (e2 := [none, some (.fz (.int n))]) rfl rfl (ss := [.fz (.int 1), .fz (.int n)]) (ss' := [.fz (.int 1), .fz (.int n)]) rfl (by
        have : pPow 1 n = true := decide_eq_true ⟨hb.1, by omega, by decide⟩
        simp only [gShl, keep2, i2, this, if_true]
        rfl) rfl
  have h2 : ((ns.map Dt.int).filter fun _ => true).map (fun d => match d with | .int n => Sv.fz (.int (1 * 2 ^ n.toNat)) | _ => .fz .non) = (ns.map fun n => (((2 ^ n.toNat : Nat)) : Int)).map fun i => Sv.fz (.int i) := by
    rw [List.filter_eq_self.mpr (fun _ _ => rfl), List.map_map, List.map_map]
    apply List.map_congr_left
    intro n _
    show Sv.fz (.int (1 * 2 ^ n.toNat)) = Sv.fz (.int ((2 ^ n.toNat : Nat) : Int))
    rw [Int.one_mul, Int.natCast_pow]
    rfl
  rw [h2] at h1
  have h3 : (ns.map fun n => (((2 ^ n.toNat : Nat)) : Int)).sum = (msk ns : Int) := by
    unfold msk
    clear h1 h2 h
    induction ns with
    | nil => rfl
    | cons n ns ih => rw [List.map_cons, List.map_cons, List.sum_cons, List.sum_cons, ih, Int.natCast_add]
  have h4 : gSum [Dr (ns.map fun n => (((2 ^ n.toNat : Nat)) : Int))] = some (.fz (.int (msk ns)), [Dr (ns.map fun n => (((2 ^ n.toNat : Nat)) : Int))]) := by
    rw [← h3]
    exact sum_Dr _
  refine fn_ret (e := [some (.fz (T ns)), none]) (e1 := [some (.fz (T ns)), none]) rfl rfl ?_
  unfold b_mask_of
  have h5 : eLc (aOne (eRef 0)) (one elems) [1] (gNm 1) tYesX x_mask_of_1 [some (.fz (T ns)), none] = .ok (.v (Dr (ns.map fun n => (((2 ^ n.toNat : Nat)) : Int))), [some (.fz (T ns)), none]) :=
    lc_ok (as := [.r 0]) (e1 := [some (.fz (T ns)), none]) rfl rfl (items := ns.map .int) rfl h1 (by
      have := h.few
      simp
      omega)
  exact ret_ret (call_ok (as := [.v (Dr (ns.map fun n => (((2 ^ n.toNat : Nat)) : Int)))]) (e1 := [some (.fz (T ns)), none]) (cons_ok h5 rfl) rfl h4 rfl)
/-! ### bodies of masks -/
def bitsI (M k : Nat) : List Int := ((List.range k).filter fun i => M.testBit i).map fun i : Nat => (i : Int)
theorem bitsI_succ (M k : Nat) : bitsI M (k + 1) = bitsI M k ++ (if M.testBit k then [(k : Int)] else []) := by
  unfold bitsI
  rw [List.range_succ, List.filter_append, List.map_append]
  cases h : M.testBit k <;> simp [h]
theorem bitsI_mem {M k : Nat} {x : Int} : x ∈ bitsI M k ↔ ∃ i : Nat, x = i ∧ i < k ∧ M.testBit i = true := by
  unfold bitsI
  simp only [List.mem_map, List.mem_filter, List.mem_range]
  constructor
  · rintro ⟨i, ⟨h1, h2⟩, rfl⟩
    exact ⟨i, rfl, h1, h2⟩
  · rintro ⟨i, rfl, h1, h2⟩
    exact ⟨i, ⟨h1, h2⟩, rfl⟩
theorem bitsI_lt (M k : Nat) : (bitsI M k).Pairwise (· < ·) := by
  unfold bitsI
  rw [List.pairwise_map]
  refine (List.Pairwise.sublist List.filter_sublist (List.pairwise_lt_range (n := k))).imp fun h => by omega
theorem bitsI_len (M k : Nat) : (bitsI M k).length ≤ k := by
  unfold bitsI
  rw [List.length_map]
  exact Nat.le_trans (List.length_filter_le _ _) (by rw [List.length_range]; exact Nat.le_refl _)
theorem size_ex (M : Nat) : ∀ B, M < 2 ^ B → ∃ k, k ≤ B ∧ M < 2 ^ k ∧ ∀ i, i < k → 2 ^ i ≤ M
  | 0, h => ⟨0, Nat.le_refl _, h, fun i hi => absurd hi (Nat.not_lt_zero i)⟩
  | B + 1, h => by
    by_cases h2 : M < 2 ^ B
    · obtain ⟨k, h3, h4⟩ := size_ex M B h2
      exact ⟨k, by omega, h4⟩
    · exact ⟨B + 1, Nat.le_refl _, h, fun i hi => Nat.le_trans (Nat.pow_le_pow_right (by omega) (by omega)) (Nat.le_of_not_lt h2)⟩
theorem shr_nat (M i : Nat) : gShr [.fz (.int M), .fz (.int i)] = some (.fz (.int ((M / 2 ^ i : Nat) : Int)), [.fz (.int M), .fz (.int i)]) := by
  have h : pShr M i = true := decide_eq_true (by omega)
  simp only [gShr, keep2, i2, h, if_true]
  show some (Sv.fz (.int ((M : Int) / 2 ^ (i : Int).toNat)), _) = _
  rw [Int.toNat_natCast, Int.natCast_ediv, Int.natCast_pow]
  rfl
theorem body_test (M i : Nat) (N : Sv) : t_body_of_1 [some (.fz (.int M)), some N, some (.fz (.int i))] = .ok (decide (2 ^ i ≤ M), [some (.fz (.int M)), some N, some (.fz (.int i))]) := by
  have h1 : eBin gShr (eRef 0) (eRef 2) [some (.fz (.int M)), some N, some (.fz (.int i))] = .ok (.v (.fz (.int ((M / 2 ^ i : Nat) : Int))), [some (.fz (.int M)), some N, some (.fz (.int i))]) :=
    bin_ok (a := .r 0) (b := .r 2) (e1 := [some (.fz (.int M)), some N, some (.fz (.int i))]) (e2 := [some (.fz (.int M)), some N, some (.fz (.int i))]) rfl rfl rfl (shr_nat M i) rfl
  have e : decide (2 ^ i ≤ M) = decide ((0 : Int) < ((M / 2 ^ i : Nat) : Int)) := by
    by_cases h : 2 ^ i ≤ M
    · have := Nat.div_pos h (Nat.two_pow_pos i)
      rw [decide_eq_true h, decide_eq_true (by omega)]
    · have : M / 2 ^ i = 0 := Nat.div_eq_of_lt (by omega)
      rw [decide_eq_false h, this]
      rfl
  rw [e]
  exact bl_ok (bin_ok (b := .v (.fz (.int 0))) h1 rfl rfl rfl rfl)
theorem body_step (M i : Nat) (N : List Int) (hN : N.length < 1000) : l_body_of_2 [some (.fz (.int M)), some (Dr N), some (.fz (.int i))] = .next [some (.fz (.int M)), some (Dr (N ++ (if M.testBit i then [(i : Int)] else []))), some (.fz (.int ((i + 1 : Nat) : Int)))] := by
  have h1 : eBin gShr (eRef 0) (eRef 2) [some (.fz (.int M)), some (Dr N), some (.fz (.int i))] = .ok (.v (.fz (.int ((M / 2 ^ i : Nat) : Int))), [some (.fz (.int M)), some (Dr N), some (.fz (.int i))]) :=
    bin_ok (a := .r 0) (b := .r 2) (e1 := [some (.fz (.int M)), some (Dr N), some (.fz (.int i))]) (e2 := [some (.fz (.int M)), some (Dr N), some (.fz (.int i))]) rfl rfl rfl (shr_nat M i) rfl
  have h2 : gAnd [.fz (.int ((M / 2 ^ i : Nat) : Int)), .fz (.int 1)] = some (.fz (.int ((M / 2 ^ i % 2 : Nat) : Int)), [.fz (.int ((M / 2 ^ i : Nat) : Int)), .fz (.int 1)]) := by
    have := PySem.W.os_band (M / 2 ^ i) 1
    rw [Nat.and_one_is_mod] at this
    simp only [gAnd, keep2, i2, pT, if_true]
    show some (Sv.fz (.int (Builtin.bitAnd ((M / 2 ^ i : Nat) : Int) ((1 : Nat) : Int))), _) = _
    rw [this]
  have h3 : eBin gAnd (eBin gShr (eRef 0) (eRef 2)) (eC (.int 1)) [some (.fz (.int M)), some (Dr N), some (.fz (.int i))] = .ok (.v (.fz (.int ((M / 2 ^ i % 2 : Nat) : Int))), [some (.fz (.int M)), some (Dr N), some (.fz (.int i))]) :=
    bin_ok (b := .v (.fz (.int 1))) h1 rfl rfl h2 rfl
  have h4 : tBl (eBin gEq (eBin gAnd (eBin gShr (eRef 0) (eRef 2)) (eC (.int 1))) (eC (.int 1))) [some (.fz (.int M)), some (Dr N), some (.fz (.int i))] = .ok (M.testBit i, [some (.fz (.int M)), some (Dr N), some (.fz (.int i))]) := by
    refine bl_ok (bin_ok (b := .v (.fz (.int 1))) h3 rfl rfl (ss' := [.fz (.int ((M / 2 ^ i % 2 : Nat) : Int)), .fz (.int 1)]) ?_ rfl)
    have e : M.testBit i = decide (((M / 2 ^ i % 2 : Nat) : Int) = 1) := by
      rw [Nat.testBit_eq_decide_div_mod_eq]
      exact decide_eq_decide.mpr (by omega)
    rw [e]
    simp
  unfold l_body_of_2
  have fin : ∀ N', sAug 2 (ipB (· + ·) pT) (eC (.int 1)) [some (.fz (.int M)), some (Dr N'), some (.fz (.int i))] = .next [some (.fz (.int M)), some (Dr N'), some (.fz (.int ((i + 1 : Nat) : Int)))] := fun N' => rfl
  cases hb : M.testBit i with
  | false =>
    rw [hb] at h4
    refine (seq_next ((if_f h4).trans rfl)).trans ?_
    rw [fin]
    simp
  | true =>
    rw [hb] at h4
    have hz : N.length < 16777216 := by omega
    have h5 : sDrop (eMeth "list" gApp (eRef 1) (aCons (eVar 2) aNil)) [some (.fz (.int M)), some (Dr N), some (.fz (.int i))] = .next [some (.fz (.int M)), some (Dr (N ++ [(i : Int)])), some (.fz (.int i))] := by
      simp [Dr, hz]
    exact (seq_next ((if_t h4).trans h5)).trans (fin _)
theorem body_loop (M k : Nat) (hk : k ≤ 900) (h1 : M < 2 ^ k) (h2 : ∀ i, i < k → 2 ^ i ≤ M) : ∀ (j i n : Nat), i + j = k → j < n → whileL t_body_of_1 l_body_of_2 n [some (.fz (.int M)), some (Dr (bitsI M i)), some (.fz (.int i))] = .next [some (.fz (.int M)), some (Dr (bitsI M k)), some (.fz (.int k))]
  | 0, i, n + 1, hi, hn => by
    obtain rfl : i = k := by omega
    rw [whileL, body_test, decide_eq_false (by omega)]
    rfl
  | j + 1, i, n + 1, hi, hn => by
    rw [whileL, body_test, decide_eq_true (h2 i (by omega))]
    simp only [if_true]
    have := bitsI_len M i
    rw [body_step M i _ (by omega), ← bitsI_succ]
    exact body_loop M k hk h1 h2 j (i + 1) n (by omega) (by omega)
theorem body_ok (M B : Nat) (hB : B ≤ 900) (h : M < 2 ^ B) : ∃ ns, f_body_of [.fz (.int M)] = .ok (.fz (T ns), [some (.fz (.int M))]) ∧ ns.Pairwise (· < ·) ∧ ∀ x, x ∈ ns ↔ ∃ i : Nat, x = i ∧ M.testBit i = true := by
  obtain ⟨k, hk, h1, h2⟩ := size_ex M B h
  refine ⟨bitsI M k, ?_, bitsI_lt M k, fun x => ?_⟩
  · refine fn_ret (e := [some (.fz (.int M)), none, none]) (e1 := [some (.fz (.int M)), some (Dr (bitsI M k)), some (.fz (.int k))]) rfl rfl ?_
    unfold b_body_of
    refine (seq_next (e1 := [some (.fz (.int M)), some (Dr []), none]) rfl).trans ?_
    refine (seq_next (e1 := [some (.fz (.int M)), some (Dr []), some (.fz (.int 0))]) rfl).trans ?_
    have hw := body_loop M k (by omega) h1 h2 k 0 fuel (by omega) (by show k < 1000000; omega)
    rw [show bitsI M 0 = [] from rfl] at hw
    refine (seq_next (show sWhile fuel t_body_of_1 l_body_of_2 [some (.fz (.int M)), some (Dr []), some (.fz (.int 0))] = _ from hw)).trans ?_
    have h3 : gTuple [Dr (bitsI M k)] = some (.fz (T (bitsI M k)), [Dr (bitsI M k)]) := by simp [Dr]
    exact ret_ret (call_ok (as := [.r 1]) (e1 := [some (.fz (.int M)), some (Dr (bitsI M k)), some (.fz (.int k))]) rfl rfl h3 rfl)
  · rw [bitsI_mem]
    constructor
    · rintro ⟨i, h3, _, h4⟩
      exact ⟨i, h3, h4⟩
    · rintro ⟨i, h3, h4⟩
      refine ⟨i, h3, ?_, h4⟩
      have := Nat.ge_two_pow_of_testBit h4
      exact (Nat.pow_lt_pow_iff_right (by omega)).mp (Nat.lt_of_le_of_lt this h1)
end K94
set_option Elab.async false
set_option linter.all false
set_option maxRecDepth 100000
set_option maxHeartbeats 1000000
namespace K94
open PySem PySem.Spec PyProof.Rows L2 Fw
/-! ### those that no other one holds -/
def greedy (bad : Nat → Nat → Bool) : List Nat → List Nat → List Nat
  | F, [] => F
  | F, s :: S => if F.all (fun o => !bad s o) then greedy bad (F ++ [s]) S else greedy bad F S
theorem greedy_sub (bad : Nat → Nat → Bool) : ∀ (S F : List Nat), ∃ U, greedy bad F S = F ++ U ∧ U.Sublist S
  | [], F => ⟨[], by simp [greedy], List.Sublist.slnil⟩
  | s :: S, F => by
    unfold greedy
    split
    · obtain ⟨U, h1, h2⟩ := greedy_sub bad S (F ++ [s])
      exact ⟨s :: U, by rw [h1]; simp, h2.cons₂ _⟩
    · obtain ⟨U, h1, h2⟩ := greedy_sub bad S F
      exact ⟨U, h1, h2.cons _⟩
theorem greedy_spec {bad : Nat → Nat → Bool} (tr : ∀ a b c, bad a b = true → bad b c = true → bad a c = true) : ∀ (S F P : List Nat), (P ++ S).Pairwise (fun x y => bad x y = false) → (∀ p ∈ P, p ∈ F ∨ ∃ f ∈ F, bad p f = true) → (∀ f ∈ F, f ∈ P ∧ ∀ o ∈ P, o ≠ f → bad f o = false) →
    ∀ m, m ∈ greedy bad F S ↔ m ∈ P ++ S ∧ ∀ o ∈ P ++ S, o ≠ m → bad m o = false
  | [], F, P, hp, hc, hF, m => by
    rw [List.append_nil]
    show m ∈ F ↔ _
    constructor
    · exact fun h => hF m h
    · rintro ⟨h1, h2⟩
      rcases hc m h1 with h | ⟨f, hf, hb⟩
      · exact h
      · by_cases e : f = m
        · rw [← e]; exact hf
        · rw [h2 f (hF f hf).1 e] at hb
          cases hb
  | s :: S, F, P, hp, hc, hF, m => by
    have e : P ++ s :: S = (P ++ [s]) ++ S := by simp
    have hs : ∀ p ∈ P, bad p s = false := fun p hpp => (List.pairwise_append.mp hp).2.2 p hpp s List.mem_cons_self
    rw [e] at hp ⊢
    unfold greedy
    split
    · rename_i hall
      have hall : ∀ o ∈ F, bad s o = false := fun o ho => by simpa using List.all_eq_true.mp hall o ho
      refine greedy_spec tr S (F ++ [s]) (P ++ [s]) hp (fun p hpp => ?_) (fun f hf => ?_) m
      · rcases List.mem_append.mp hpp with h | h
        · rcases hc p h with h | ⟨f, hf, hb⟩
          · exact .inl (List.mem_append_left _ h)
          · exact .inr ⟨f, List.mem_append_left _ hf, hb⟩
        · exact .inl (List.mem_append_right _ h)
      · rcases List.mem_append.mp hf with h | h
        · obtain ⟨h1, h2⟩ := hF f h
          refine ⟨List.mem_append_left _ h1, fun o ho hne => ?_⟩
          rcases List.mem_append.mp ho with ho | ho
          · exact h2 o ho hne
          · rw [List.mem_singleton.mp ho]; exact hs f h1
        · rw [List.mem_singleton.mp h]
          refine ⟨List.mem_append_right _ List.mem_cons_self, fun o ho hne => ?_⟩
          rcases List.mem_append.mp ho with ho | ho
          · rcases hc o ho with h3 | ⟨f, hf, hb⟩
            · exact hall o h3
            · cases hq : bad s o with
              | false => rfl
              | true =>
                have := tr s o f hq hb
                rw [hall f hf] at this
                cases this
          · exact absurd (List.mem_singleton.mp ho) hne
    · rename_i hall
      have : ∃ o ∈ F, bad s o = true := by
        simpa using hall
      refine greedy_spec tr S F (P ++ [s]) hp (fun p hpp => ?_) (fun f hf => ?_) m
      · rcases List.mem_append.mp hpp with h | h
        · exact hc p h
        · rw [List.mem_singleton.mp h]; exact .inr this
      · obtain ⟨h1, h2⟩ := hF f hf
        refine ⟨List.mem_append_left _ h1, fun o ho hne => ?_⟩
        rcases List.mem_append.mp ho with ho | ho
        · exact h2 o ho hne
        · rw [List.mem_singleton.mp ho]; exact hs f h1
def badG (m o : Nat) : Bool := decide (m &&& o = m)
def badL (m o : Nat) : Bool := decide (m &&& o = o)
abbrev DN (F : List Nat) : Sv := Dr (F.map fun n : Nat => (n : Int))
theorem and_nat (m o : Nat) : gAnd [.fz (.int m), .fz (.int o)] = some (.fz (.int ((m &&& o : Nat) : Int)), [.fz (.int m), .fz (.int o)]) := by
  simp only [gAnd, keep2, i2, pT, if_true]
  rw [PySem.W.os_band]
  rfl
theorem xG (M0 : Option Sv) (m o : Nat) : x_greatest_masks_1 [M0, none, some (.fz (.int m)), some (.fz (.int o))] = .ok (.v (.fz (.bl (!badG m o))), [M0, none, some (.fz (.int m)), some (.fz (.int o))]) := by
  have h1 : eBin gAnd (eRef 2) (eRef 3) [M0, none, some (.fz (.int m)), some (.fz (.int o))] = .ok (.v (.fz (.int ((m &&& o : Nat) : Int))), [M0, none, some (.fz (.int m)), some (.fz (.int o))]) :=
    bin_ok (a := .r 2) (b := .r 3) (e1 := [M0, none, some (.fz (.int m)), some (.fz (.int o))]) (e2 := [M0, none, some (.fz (.int m)), some (.fz (.int o))]) rfl rfl rfl (and_nat m o) rfl
  refine bin_ok (b := .r 2) (e2 := [M0, none, some (.fz (.int m)), some (.fz (.int o))]) (e3 := [M0, none, none, some (.fz (.int o))]) h1 rfl rfl (ss' := [.fz (.int ((m &&& o : Nat) : Int)), .fz (.int m)]) ?_ rfl
  have e : badG m o = decide (((m &&& o : Nat) : Int) = (m : Int)) := decide_eq_decide.mpr (by omega)
  rw [e]
  simp
theorem xL (M0 : Option Sv) (m o : Nat) : x_least_masks_1 [M0, none, some (.fz (.int m)), some (.fz (.int o))] = .ok (.v (.fz (.bl (!badL m o))), [M0, none, some (.fz (.int m)), some (.fz (.int o))]) := by
  have h1 : eBin gAnd (eRef 2) (eRef 3) [M0, none, some (.fz (.int m)), some (.fz (.int o))] = .ok (.v (.fz (.int ((m &&& o : Nat) : Int))), [M0, none, some (.fz (.int m)), some (.fz (.int o))]) :=
    bin_ok (a := .r 2) (b := .r 3) (e1 := [M0, none, some (.fz (.int m)), some (.fz (.int o))]) (e2 := [M0, none, some (.fz (.int m)), some (.fz (.int o))]) rfl rfl rfl (and_nat m o) rfl
  refine bin_ok (b := .r 3) (e2 := [M0, none, some (.fz (.int m)), some (.fz (.int o))]) (e3 := [M0, none, some (.fz (.int m)), none]) h1 rfl rfl (ss' := [.fz (.int ((m &&& o : Nat) : Int)), .fz (.int o)]) ?_ rfl
  have e : badL m o = decide (((m &&& o : Nat) : Int) = (o : Int)) := decide_eq_decide.mpr (by omega)
  rw [e]
  simp
def natOf : Dt → Nat
  | .int i => i.toNat
  | _ => 0
theorem one_Dr (L : List Int) : one elems [Dr L] = some (L.map .int) := by simp [Dr]
theorem one_DT (L : List (List Int)) : one elems [DT L] = some (L.map T) := by simp [DT]
theorem all_bls (bs : List Bool) : gAll [.lst (bs.map fun b => Sv.fz (.bl b))] = some (.fz (.bl (bs.all id)), [.lst (bs.map fun b => Sv.fz (.bl b))]) := by simp
theorem any_bls (bs : List Bool) : gAny [.lst (bs.map fun b => Sv.fz (.bl b))] = some (.fz (.bl (bs.any id)), [.lst (bs.map fun b => Sv.fz (.bl b))]) := by simp
/-- the test of both -/
theorem testAll {x : Ex} {bad : Nat → Nat → Bool} (hx : ∀ M0 m o, x [M0, none, some (.fz (.int (m : Nat))), some (.fz (.int (o : Nat)))] = .ok (.v (.fz (.bl (!bad m o))), [M0, none, some (.fz (.int m)), some (.fz (.int o))])) (M0 : Option Sv) (F : List Nat) (m : Nat) (hF : F.length ≤ 1000) :
    tOf (eCall gAll (aCons (eLc (aOne (eRef 1)) (one elems) [3] (gNm 3) tYesX x) aNil)) [M0, some (DN F), some (.fz (.int m)), none] = .ok (F.all (fun o => !bad m o), [M0, some (DN F), some (.fz (.int m)), none]) := by
  have h1 : compL (gNm 3) tYesX x [3] ((F.map fun n : Nat => (n : Int)).map .int) [M0, none, some (.fz (.int m)), none] = .ok ((((F.map fun n : Nat => (n : Int)).map .int).filter fun _ => true).map (fun d => Sv.fz (.bl (!bad m (natOf d)))), [M0, none, some (.fz (.int m)), none]) :=
    compL_map (fun _ => true) _ fun d hd => by
      obtain ⟨n, hn, rfl⟩ := List.mem_map.mp hd
      obtain ⟨o, ho, rfl⟩ := List.mem_map.mp hn
      exact ⟨_, rfl, _, rfl, (fun z => nomatch z), fun _ => ⟨[M0, none, some (.fz (.int m)), some (.fz (.int o))], hx M0 m o, rfl⟩⟩
  have e1 : (((F.map fun n : Nat => (n : Int)).map Dt.int).filter fun _ => true).map (fun d => Sv.fz (.bl (!bad m (natOf d)))) = (F.map fun o => !bad m o).map fun b => Sv.fz (.bl b) := by
    rw [List.filter_eq_self.mpr (fun _ _ => rfl), List.map_map, List.map_map, List.map_map]
    rfl
  rw [e1] at h1
  have h2 : eLc (aOne (eRef 1)) (one elems) [3] (gNm 3) tYesX x [M0, some (DN F), some (.fz (.int m)), none] = .ok (.v (.lst ((F.map fun o => !bad m o).map fun b => Sv.fz (.bl b))), [M0, some (DN F), some (.fz (.int m)), none]) :=
    lc_ok (as := [.r 1]) (e1 := [M0, some (DN F), some (.fz (.int m)), none]) rfl rfl (items := (F.map fun n : Nat => (n : Int)).map .int) (one_Dr _) h1 (by simp; omega)
  have h3 : gAll [.lst ((F.map fun o => !bad m o).map fun b => Sv.fz (.bl b))] = some (.fz (.bl (F.all fun o => !bad m o)), [.lst ((F.map fun o => !bad m o).map fun b => Sv.fz (.bl b))]) := by
    rw [all_bls, List.all_map]
    rfl
  exact of_bl (call_ok (as := [.v (.lst ((F.map fun o => !bad m o).map fun b => Sv.fz (.bl b)))]) (e1 := [M0, some (DN F), some (.fz (.int m)), none]) (cons_ok h2 rfl) rfl h3 rfl)
theorem app_DN (M0 : Option Sv) (F : List Nat) (m : Nat) (hF : F.length ≤ 1000) : sDrop (eMeth "list" gApp (eRef 1) (aCons (eVar 2) aNil)) [M0, some (DN F), some (.fz (.int m)), none] = .next [M0, some (DN (F ++ [m])), some (.fz (.int m)), none] := by
  have hz : F.length < 16777216 := by omega
  simp [Dr, hz]
theorem turn_ok {x : Ex} {bad : Nat → Nat → Bool} (hx : ∀ M0 m o, x [M0, none, some (.fz (.int (m : Nat))), some (.fz (.int (o : Nat)))] = .ok (.v (.fz (.bl (!bad m o))), [M0, none, some (.fz (.int m)), some (.fz (.int o))])) (M0 : Option Sv) : ∀ (S F : List Nat) (u : Option Sv), F.length + S.length ≤ 1000 →
    ∃ u', forL (gNm 2) (sIf (tOf (eCall gAll (aCons (eLc (aOne (eRef 1)) (one elems) [3] (gNm 3) tYesX x) aNil))) (sDrop (eMeth "list" gApp (eRef 1) (aCons (eVar 2) aNil))) sNext) ((S.map fun n : Nat => (n : Int)).map .int) [M0, some (DN F), u, none] = .next [M0, some (DN (greedy bad F S)), u', none]
  | [], F, u, _ => ⟨u, rfl⟩
  | m :: S, F, u, h => by
    rw [List.length_cons] at h
    have ht := testAll hx M0 F m (by omega)
    cases hb : F.all (fun o => !bad m o) with
    | true =>
      rw [hb] at ht
      obtain ⟨u', h1⟩ := turn_ok hx M0 S (F ++ [m]) (some (.fz (.int m))) (by simp; omega)
      refine ⟨u', ?_⟩
      rw [List.map_cons, List.map_cons, forL]
      show (match sIf _ _ _ [M0, some (DN F), some (.fz (.int m)), none] with | .next e2 => _ | .cnt e2 => _ | .brk e2 => _ | .ret s e2 => _ | .exc x e2 => _ | .bad => _) = _
      rw [(if_t ht).trans (app_DN M0 F m (by omega))]
      rw [greedy, if_pos hb]
      exact h1
    | false =>
      rw [hb] at ht
      obtain ⟨u', h1⟩ := turn_ok hx M0 S F (some (.fz (.int m))) (by omega)
      refine ⟨u', ?_⟩
      rw [List.map_cons, List.map_cons, forL]
      show (match sIf _ _ _ [M0, some (DN F), some (.fz (.int m)), none] with | .next e2 => _ | .cnt e2 => _ | .brk e2 => _ | .ret s e2 => _ | .exc x e2 => _ | .bad => _) = _
      rw [(if_f ht).trans rfl]
      rw [greedy, if_neg (by rw [hb]; exact Bool.false_ne_true)]
      exact h1
theorem srtI_nat (rev : Bool) (S : List Nat) : ∃ S' : List Nat, srtI rev (S.map fun n : Nat => (n : Int)) = S'.map (fun n : Nat => (n : Int)) ∧ S'.Perm S := by
  have h := srtI_perm rev (S.map fun n : Nat => (n : Int))
  refine ⟨(srtI rev (S.map fun n : Nat => (n : Int))).map Int.toNat, ?_, ?_⟩
  · rw [List.map_map]
    have : ∀ x ∈ srtI rev (S.map fun n : Nat => (n : Int)), ((fun n : Nat => (n : Int)) ∘ Int.toNat) x = x := fun x hx => by
      obtain ⟨n, _, rfl⟩ := List.mem_map.mp (h.mem_iff.mp hx)
      rfl
    rw [List.map_congr_left this]
    simp
  · have h2 := h.map Int.toNat
    rw [List.map_map] at h2
    have : S.map (Int.toNat ∘ fun n : Nat => (n : Int)) = S := by
      rw [show (Int.toNat ∘ fun n : Nat => (n : Int)) = id from rfl]
      simp
    rw [this] at h2
    exact h2
/-- what is said of both: the greatest, the least -/
theorem great_ok (S : List Nat) (hS : S.length ≤ 100) (nd : S.Nodup) : ∃ R : List Nat, f_greatest_masks [DN S] = .ok (DN R, [some (DN S)]) ∧ R.Nodup ∧ R.length ≤ S.length ∧ ∀ m, m ∈ R ↔ m ∈ S ∧ ∀ o ∈ S, o ≠ m → badG m o = false := by
  obtain ⟨S', h1, h2⟩ := srtI_nat true S
  have h3 : S'.Pairwise fun x y => badG x y = false := by
    have := srtI_down (S.map fun n : Nat => (n : Int))
    rw [h1, List.pairwise_map] at this
    have nd' : S'.Nodup := h2.nodup_iff.mpr nd
    refine (this.and nd').imp fun {a b} ⟨h4, h5⟩ => ?_
    cases hq : badG a b with
    | false => rfl
    | true =>
      have hq := of_decide_eq_true hq
      have : a ≤ b := by rw [← hq]; exact Nat.and_le_right
      exact absurd (show a = b by omega) h5
  have sp := greedy_spec (bad := badG) (fun a b c h4 h5 => by
    have h4 := of_decide_eq_true h4
    have h5 := of_decide_eq_true h5
    refine decide_eq_true ?_
    rw [← h4, Nat.and_assoc, h5]) S' [] [] h3 (fun p hp => nomatch hp) (fun f hf => nomatch hf)
  obtain ⟨U, h6, h7⟩ := greedy_sub badG S' []
  obtain ⟨u', h8⟩ := turn_ok (bad := badG) xG (some (DN S)) S' [] none (by rw [h2.length_eq]; simp; omega)
  refine ⟨greedy badG [] S', ?_, ?_, ?_, fun m => ?_⟩
  · refine fn_ret (e := [some (DN S), none, none, none]) (e1 := [some (DN S), none, u', none]) rfl rfl ?_
    unfold b_greatest_masks
    refine (seq_next (e1 := [some (DN S), some (DN []), none, none]) rfl).trans ?_
    have h9 : gSorted true [DN S] = some (DN S', [DN S]) := by rw [Fw.sorted_ints, h1]
    refine (seq_next (for_next (as := [.v (DN S')]) (e1 := [some (DN S), some (DN []), none, none]) (one_ok (call_ok (as := [.r 0]) (e1 := [some (DN S), some (DN []), none, none]) rfl rfl h9 rfl)) rfl (items := (S'.map fun n : Nat => (n : Int)).map .int) (one_Dr _) rfl h8)).trans ?_
    rfl
  · rw [h6]; exact (h2.nodup_iff.mpr nd).sublist h7
  · rw [h6, ← h2.length_eq]; exact h7.length_le
  · rw [sp m]
    simp only [List.nil_append, h2.mem_iff]
theorem least_ok (S : List Nat) (hS : S.length ≤ 100) (nd : S.Nodup) : ∃ R : List Nat, f_least_masks [DN S] = .ok (DN R, [some (DN S)]) ∧ R.Nodup ∧ R.length ≤ S.length ∧ ∀ m, m ∈ R ↔ m ∈ S ∧ ∀ o ∈ S, o ≠ m → badL m o = false := by
  obtain ⟨S', h1, h2⟩ := srtI_nat false S
  have h3 : S'.Pairwise fun x y => badL x y = false := by
    have := srtI_up (S.map fun n : Nat => (n : Int))
    rw [h1, List.pairwise_map] at this
    have nd' : S'.Nodup := h2.nodup_iff.mpr nd
    refine (this.and nd').imp fun {a b} ⟨h4, h5⟩ => ?_
    cases hq : badL a b with
    | false => rfl
    | true =>
      have hq := of_decide_eq_true hq
      have : b ≤ a := by rw [← hq]; exact Nat.and_le_left
      exact absurd (show a = b by omega) h5
  have sp := greedy_spec (bad := badL) (fun a b c h4 h5 => by
    have h4 := of_decide_eq_true h4
    have h5 := of_decide_eq_true h5
    refine decide_eq_true ?_
    rw [← h5, ← Nat.and_assoc, h4]) S' [] [] h3 (fun p hp => nomatch hp) (fun f hf => nomatch hf)
  obtain ⟨U, h6, h7⟩ := greedy_sub badL S' []
  obtain ⟨u', h8⟩ := turn_ok (bad := badL) xL (some (DN S)) S' [] none (by rw [h2.length_eq]; simp; omega)
  refine ⟨greedy badL [] S', ?_, ?_, ?_, fun m => ?_⟩
  · refine fn_ret (e := [some (DN S), none, none, none]) (e1 := [some (DN S), none, u', none]) rfl rfl ?_
    unfold b_least_masks
    refine (seq_next (e1 := [some (DN S), some (DN []), none, none]) rfl).trans ?_
    have h9 : gSorted false [DN S] = some (DN S', [DN S]) := by rw [Fw.sorted_ints, h1]
    refine (seq_next (for_next (as := [.v (DN S')]) (e1 := [some (DN S), some (DN []), none, none]) (one_ok (call_ok (as := [.r 0]) (e1 := [some (DN S), some (DN []), none, none]) rfl rfl h9 rfl)) rfl (items := (S'.map fun n : Nat => (n : Int)).map .int) (one_Dr _) rfl h8)).trans ?_
    rfl
  · rw [h6]; exact (h2.nodup_iff.mpr nd).sublist h7
  · rw [h6, ← h2.length_eq]; exact h7.length_le
  · rw [sp m]
    simp only [List.nil_append, h2.mem_iff]
end K94
set_option Elab.async false
set_option linter.all false
set_option maxRecDepth 100000
set_option maxHeartbeats 1000000
namespace K94
open PySem PySem.Spec PyProof.Rows L2 Fw
def bd (M : Nat) : List Int := bitsI M 900
theorem body_bd (M B : Nat) (hB : B ≤ 900) (h : M < 2 ^ B) : f_body_of [.fz (.int M)] = .ok (.fz (T (bd M)), [some (.fz (.int M))]) := by
  obtain ⟨ns, h1, h2, h3⟩ := body_ok M B hB h
  have : ns = bd M := lt_unique h2 (bitsI_lt M 900) fun x => by
    rw [h3, bd, bitsI_mem]
    constructor
    · rintro ⟨i, h4, h5⟩
      refine ⟨i, h4, ?_, h5⟩
      have := Nat.ge_two_pow_of_testBit h5
      have := (Nat.pow_lt_pow_iff_right (a := 2) (by omega)).mp (Nat.lt_of_le_of_lt this h)
      omega
    · rintro ⟨i, h4, _, h5⟩
      exact ⟨i, h4, h5⟩
  rw [h1, this]
theorem msk_small {m : Int} {ns : List Int} (h : Up m ns) (hm : m ≤ 200) : msk ns < 2 ^ 200 := by
  refine Nat.lt_pow_two_of_testBit _ fun i hi => ?_
  rw [msk_bit h.lt (fun n hn => (h.bd n hn).1)]
  refine decide_eq_false fun hm2 => ?_
  have := (h.bd _ hm2).2
  omega
theorem bd_msk {m : Int} {ns : List Int} (h : Up m ns) (hm : m ≤ 200) : bd (msk ns) = ns := by
  refine lt_unique (bitsI_lt _ _) h.lt fun x => ?_
  rw [bd, bitsI_mem]
  constructor
  · rintro ⟨i, rfl, _, h3⟩
    rw [msk_bit h.lt (fun n hn => (h.bd n hn).1)] at h3
    exact of_decide_eq_true h3
  · intro hx
    have hb := h.bd x hx
    refine ⟨x.toNat, by omega, by omega, ?_⟩
    rw [msk_bit h.lt (fun n hn => (h.bd n hn).1)]
    refine decide_eq_true ?_
    rw [show ((x.toNat : Nat) : Int) = x by omega]
    exact hx
theorem msk_sub {m : Int} {a b : List Int} (ha : Up m a) (hb : Up m b) : msk a &&& msk b = msk a ↔ ∀ x ∈ a, x ∈ b := by
  have bit := fun i => msk_bit ha.lt (fun n hn => (ha.bd n hn).1) i
  have bit2 := fun i => msk_bit hb.lt (fun n hn => (hb.bd n hn).1) i
  constructor
  · intro h x hx
    have hbx := ha.bd x hx
    have h1 := congrArg (·.testBit x.toNat) h
    simp only [Nat.testBit_and, bit, bit2] at h1
    rw [show ((x.toNat : Nat) : Int) = x by omega] at h1
    rw [decide_eq_true hx] at h1
    simpa using h1
  · intro h
    apply Nat.eq_of_testBit_eq
    intro i
    rw [Nat.testBit_and, bit, bit2]
    by_cases hi : (i : Int) ∈ a
    · rw [decide_eq_true hi, decide_eq_true (h _ hi)]
      rfl
    · rw [decide_eq_false hi]
      rfl
def intsD : Dt → List Int
  | .tup ds => (intsOf ds).getD []
  | _ => []
theorem intsD_T (ns : List Int) : intsD (T ns) = ns := by simp [intsD]
/-- masks of rows -/
theorem masks_ok {xm : Ex} (hxm : xm = eFz (eOwn f_mask_of (aCons (eRef 2) aNil))) {m : Int} {rows : List (List Int)} (h : ∀ r ∈ rows, Up m r) (hm : m ≤ 200) (hz : rows.length ≤ 100) :
    eLc (aOne (eRef 0)) (one elems) [2] (gNm 2) tYesX xm [some (DT rows), none, none] = .ok (.v (DN (rows.map msk)), [some (DT rows), none, none]) := by
  have h1 : compL (gNm 2) tYesX xm [2] (rows.map T) [none, none, none] = .ok (((rows.map T).filter fun _ => true).map (fun d => Sv.fz (.int (msk (intsD d)))), [none, none, none]) :=
    compL_map (fun _ => true) _ fun d hd => by
      obtain ⟨r, hr, rfl⟩ := List.mem_map.mp hd
      refine ⟨_, rfl, _, rfl, (fun z => nomatch z), fun _ => ⟨[none, none, some (.fz (T r))], ?_, rfl⟩⟩
      rw [hxm, intsD_T]
      exact fz_ok (s := .fz (.int (msk r))) (own_ok (as := [.r 2]) (e1 := [none, none, some (.fz (T r))]) (e2 := [none, none, none]) rfl rfl (mask_ok (h r hr) (by omega)))
  have e1 : ((rows.map T).filter fun _ => true).map (fun d => Sv.fz (.int (msk (intsD d)))) = ((rows.map msk).map fun n : Nat => (n : Int)).map fun i => Sv.fz (.int i) := by
    rw [List.filter_eq_self.mpr (fun _ _ => rfl), List.map_map, List.map_map, List.map_map]
    apply List.map_congr_left
    intro r _
    show Sv.fz (.int (msk (intsD (T r)))) = Sv.fz (.int (msk r))
    rw [intsD_T]
  rw [e1] at h1
  exact lc_ok (as := [.r 0]) (e1 := [some (DT rows), none, none]) rfl rfl (items := rows.map T) (one_DT _) h1 (by simp; omega)
theorem bodies_ok {xb fm : Ex} (hxb : xb = eFz (eOwn f_body_of (aCons (eRef 1) aNil))) {R : List Nat} {e : Fw.Env} {a : Option Sv} (hfm : fm e = .ok (.v (DN R), [a, none, none])) (hR : ∀ M ∈ R, M < 2 ^ 200) (hz : R.length ≤ 100) :
    eLc (aOne fm) (one elems) [1] (gNm 1) tYesX xb e = .ok (.v (DT (R.map bd)), [a, none, none]) := by
  have h1 : compL (gNm 1) tYesX xb [1] ((R.map fun n : Nat => (n : Int)).map .int) [a, none, none] = .ok ((((R.map fun n : Nat => (n : Int)).map Dt.int).filter fun _ => true).map (fun d => Sv.fz (T (bd (natOf d)))), [a, none, none]) :=
    compL_map (fun _ => true) _ fun d hd => by
      obtain ⟨i, hi, rfl⟩ := List.mem_map.mp hd
      obtain ⟨M, hM, rfl⟩ := List.mem_map.mp hi
      refine ⟨_, rfl, _, rfl, (fun z => nomatch z), fun _ => ⟨[a, some (.fz (.int M)), none], ?_, rfl⟩⟩
      rw [hxb]
      exact fz_ok (s := .fz (T (bd M))) (own_ok (as := [.r 1]) (e1 := [a, some (.fz (.int M)), none]) (e2 := [a, none, none]) rfl rfl (body_bd M 200 (by omega) (hR M hM)))
  have e1 : (((R.map fun n : Nat => (n : Int)).map Dt.int).filter fun _ => true).map (fun d => Sv.fz (T (bd (natOf d)))) = (R.map bd).map fun x => Sv.fz (T x) := by
    rw [List.filter_eq_self.mpr (fun _ _ => rfl), List.map_map, List.map_map, List.map_map]
    rfl
  rw [e1] at h1
  exact lc_ok (as := [.v (DN R)]) (e1 := [a, none, none]) (one_ok hfm) rfl (items := (R.map fun n : Nat => (n : Int)).map .int) (one_Dr _) h1 (by simp; omega)
def part (a b : List Int) : Bool := decide (∀ x ∈ a, x ∈ b)
def highs (rows : List (List Int)) : List (List Int) := rows.filter fun r => !rows.any fun o => !decide (r = o) && part r o
def lows (rows : List (List Int)) : List (List Int) := rows.filter fun r => !rows.any fun o => !decide (r = o) && part o r
theorem srt1_of {xs : List (List Int)} (nd : xs.Nodup) (h : ∀ x ∈ xs, ∀ y ∈ xs, x ≠ y → ¬ ∀ z ∈ x, z ∈ y) : Srt1 xs := by
  by_cases he : [] ∈ xs
  · refine .inr ?_
    match xs, nd, h, he with
    | [_], _, _, _ => exact Nat.le_refl _
    | a :: b :: r, nd, h, he =>
      exfalso
      have all : ∀ y ∈ a :: b :: r, y = [] := fun y hy => by
        by_cases e : ([] : List Int) = y
        · exact e.symm
        · exact absurd (fun z hz => nomatch hz) (h [] he y hy e)
      have h1 := all a List.mem_cons_self
      have h2 := all b (List.mem_cons_of_mem _ List.mem_cons_self)
      rw [h1, h2] at nd
      exact (List.nodup_cons.mp nd).1 List.mem_cons_self
  · exact .inl fun x hx e => he (e ▸ hx)
theorem mem_highs {rows : List (List Int)} {r : List Int} : r ∈ highs rows ↔ r ∈ rows ∧ ∀ o ∈ rows, o ≠ r → ¬ ∀ x ∈ r, x ∈ o := by
  unfold highs part
  rw [List.mem_filter]
  simp only [Bool.not_eq_true', List.any_eq_false, Bool.and_eq_true, Bool.not_eq_true', decide_eq_true_eq, decide_eq_false_iff_not, not_and]
  constructor
  · rintro ⟨h1, h2⟩
    exact ⟨h1, fun o ho hne => h2 o ho fun e => hne e.symm⟩
  · rintro ⟨h1, h2⟩
    exact ⟨h1, fun o ho hne => h2 o ho fun e => hne e.symm⟩
theorem mem_lows {rows : List (List Int)} {r : List Int} : r ∈ lows rows ↔ r ∈ rows ∧ ∀ o ∈ rows, o ≠ r → ¬ ∀ x ∈ o, x ∈ r := by
  unfold lows part
  rw [List.mem_filter]
  simp only [Bool.not_eq_true', List.any_eq_false, Bool.and_eq_true, Bool.not_eq_true', decide_eq_true_eq, decide_eq_false_iff_not, not_and]
  constructor
  · rintro ⟨h1, h2⟩
    exact ⟨h1, fun o ho hne => h2 o ho fun e => hne e.symm⟩
  · rintro ⟨h1, h2⟩
    exact ⟨h1, fun o ho hne => h2 o ho fun e => hne e.symm⟩
theorem msk_inj {m : Int} {a b : List Int} (ha : Up m a) (hb : Up m b) (hm : m ≤ 200) (h : msk a = msk b) : a = b := by
  rw [← bd_msk ha hm, ← bd_msk hb hm, h]
theorem masks_nodup {m : Int} {rows : List (List Int)} (h : Sets m rows) (hm : m ≤ 200) : (rows.map msk).Nodup := by
  obtain ⟨nd, hu⟩ := h
  induction rows with
  | nil => exact List.nodup_nil
  | cons a r ih =>
    obtain ⟨n1, n2⟩ := List.nodup_cons.mp nd
    rw [List.map_cons]
    refine List.nodup_cons.mpr ⟨fun hmem => ?_, ih n2 fun x hx => hu x (List.mem_cons_of_mem _ hx)⟩
    obtain ⟨b, hb, e⟩ := List.mem_map.mp hmem
    have := msk_inj (hu b (List.mem_cons_of_mem _ hb)) (hu a List.mem_cons_self) hm e
    subst this
    exact n1 hb
theorem bodies_perm {m : Int} {rows H : List (List Int)} {R : List Nat} (h : Sets m rows) (hm : m ≤ 200) (ndH : H.Nodup) (hsub : ∀ r ∈ H, r ∈ rows) (ndR : R.Nodup) (hR : ∀ M, M ∈ R ↔ ∃ r ∈ H, msk r = M) : (R.map bd).Perm H := by
  have e : R.Perm (H.map msk) := by
    refine (List.perm_ext_iff_of_nodup ndR ?_).mpr fun M => ?_
    · exact masks_nodup (m := m) ⟨ndH, fun r hr => h.2 r (hsub r hr)⟩ hm
    · rw [hR, List.mem_map]
  refine (e.map bd).trans ?_
  rw [List.map_map]
  have : H.map (bd ∘ msk) = H := (List.map_congr_left (g := id) fun r hr => bd_msk (h.2 r (hsub r hr)) hm).trans (List.map_id H)
  rw [this]
theorem greatest_ok {m : Int} {rows : List (List Int)} (h : Sets m rows) (hm : m ≤ 200) (hz : rows.length ≤ 24) : f_greatest [DT rows] = .ok (DT (srtT (highs rows)), [some (DT rows)]) := by
  obtain ⟨R, h1, h2, h3, h4⟩ := great_ok (rows.map msk) (by simp; omega) (masks_nodup h hm)
  have hR : ∀ M, M ∈ R ↔ ∃ r ∈ highs rows, msk r = M := fun M => by
    rw [h4]
    constructor
    · rintro ⟨hM, hmax⟩
      obtain ⟨r, hr, rfl⟩ := List.mem_map.mp hM
      refine ⟨r, mem_highs.mpr ⟨hr, fun o ho hne hsub => ?_⟩, rfl⟩
      have hne2 : msk o ≠ msk r := fun e => hne (msk_inj (h.2 o ho) (h.2 r hr) hm e)
      have := hmax (msk o) (List.mem_map.mpr ⟨o, ho, rfl⟩) hne2
      exact of_decide_eq_false this ((msk_sub (h.2 r hr) (h.2 o ho)).mpr hsub)
    · rintro ⟨r, hr, rfl⟩
      obtain ⟨hr1, hr2⟩ := mem_highs.mp hr
      refine ⟨List.mem_map.mpr ⟨r, hr1, rfl⟩, fun M hM hne => ?_⟩
      obtain ⟨o, ho, rfl⟩ := List.mem_map.mp hM
      refine decide_eq_false fun e => hr2 o ho (fun z => hne (by rw [z])) ((msk_sub (h.2 r hr1) (h.2 o ho)).mp e)
  have ndH : (highs rows).Nodup := h.1.sublist List.filter_sublist
  have hsub : ∀ r ∈ highs rows, r ∈ rows := fun r hr => (mem_highs.mp hr).1
  have pm := bodies_perm h hm ndH hsub h2 hR
  have hs : Srt1 (R.map bd) := (srt1_of ndH fun x hx y hy hne => (mem_highs.mp hx).2 y (hsub y hy) fun e => hne e.symm).perm pm.symm
  have hlt : ∀ M ∈ R, M < 2 ^ 200 := fun M hM => by
    obtain ⟨r, hr, rfl⟩ := (hR M).mp hM
    exact msk_small (h.2 r (hsub r hr)) hm
  have hRl : R.length ≤ 100 := by simp at h3; omega
  refine fn_ret (e := [some (DT rows), none, none]) (e1 := [some (DT rows), none, none]) rfl rfl ?_
  unfold b_greatest
  have a1 := masks_ok (xm := x_greatest_1) rfl h.2 hm (by omega)
  have a2 : eOwn f_greatest_masks (aCons (eLc (aOne (eRef 0)) (one elems) [2] (gNm 2) tYesX x_greatest_1) aNil) [some (DT rows), none, none] = .ok (.v (DN R), [some (DT rows), none, none]) :=
    own_ok (as := [.v (DN (rows.map msk))]) (e1 := [some (DT rows), none, none]) (e2 := [some (DT rows), none, none]) (cons_ok a1 rfl) rfl h1
  have a3 := bodies_ok (xb := x_greatest_2) rfl a2 hlt hRl
  have a4 : gSorted false [DT (R.map bd)] = some (DT (srtT (highs rows)), [DT (R.map bd)]) := by rw [sorted_T hs, srtT_eq pm]
  exact ret_ret (call_ok (as := [.v (DT (R.map bd))]) (e1 := [some (DT rows), none, none]) (cons_ok a3 rfl) rfl a4 rfl)
theorem least_all {m : Int} {rows : List (List Int)} (h : Sets m rows) (hm : m ≤ 200) (hz : rows.length ≤ 24) : f_least [DT rows] = .ok (DT (srtT (lows rows)), [some (DT rows)]) := by
  obtain ⟨R, h1, h2, h3, h4⟩ := least_ok (rows.map msk) (by simp; omega) (masks_nodup h hm)
  have hR : ∀ M, M ∈ R ↔ ∃ r ∈ lows rows, msk r = M := fun M => by
    rw [h4]
    constructor
    · rintro ⟨hM, hmax⟩
      obtain ⟨r, hr, rfl⟩ := List.mem_map.mp hM
      refine ⟨r, mem_lows.mpr ⟨hr, fun o ho hne hsub => ?_⟩, rfl⟩
      have hne2 : msk o ≠ msk r := fun e => hne (msk_inj (h.2 o ho) (h.2 r hr) hm e)
      have := hmax (msk o) (List.mem_map.mpr ⟨o, ho, rfl⟩) hne2
      refine of_decide_eq_false this ?_
      rw [Nat.and_comm]
      exact (msk_sub (h.2 o ho) (h.2 r hr)).mpr hsub
    · rintro ⟨r, hr, rfl⟩
      obtain ⟨hr1, hr2⟩ := mem_lows.mp hr
      refine ⟨List.mem_map.mpr ⟨r, hr1, rfl⟩, fun M hM hne => ?_⟩
      obtain ⟨o, ho, rfl⟩ := List.mem_map.mp hM
      refine decide_eq_false fun e => hr2 o ho (fun z => hne (by rw [z])) ?_
      rw [Nat.and_comm] at e
      exact (msk_sub (h.2 o ho) (h.2 r hr1)).mp e
  have ndH : (lows rows).Nodup := h.1.sublist List.filter_sublist
  have hsub : ∀ r ∈ lows rows, r ∈ rows := fun r hr => (mem_lows.mp hr).1
  have pm := bodies_perm h hm ndH hsub h2 hR
  have hs : Srt1 (R.map bd) := (srt1_of ndH fun x hx y hy hne => (mem_lows.mp hy).2 x (hsub x hx) hne).perm pm.symm
  have hlt : ∀ M ∈ R, M < 2 ^ 200 := fun M hM => by
    obtain ⟨r, hr, rfl⟩ := (hR M).mp hM
    exact msk_small (h.2 r (hsub r hr)) hm
  have hRl : R.length ≤ 100 := by simp at h3; omega
  refine fn_ret (e := [some (DT rows), none, none]) (e1 := [some (DT rows), none, none]) rfl rfl ?_
  unfold b_least
  have a1 := masks_ok (xm := x_least_1) rfl h.2 hm (by omega)
  have a2 : eOwn f_least_masks (aCons (eLc (aOne (eRef 0)) (one elems) [2] (gNm 2) tYesX x_least_1) aNil) [some (DT rows), none, none] = .ok (.v (DN R), [some (DT rows), none, none]) :=
    own_ok (as := [.v (DN (rows.map msk))]) (e1 := [some (DT rows), none, none]) (e2 := [some (DT rows), none, none]) (cons_ok a1 rfl) rfl h1
  have a3 := bodies_ok (xb := x_least_2) rfl a2 hlt hRl
  have a4 : gSorted false [DT (R.map bd)] = some (DT (srtT (lows rows)), [DT (R.map bd)]) := by rw [sorted_T hs, srtT_eq pm]
  exact ret_ret (call_ok (as := [.v (DT (R.map bd))]) (e1 := [some (DT rows), none, none]) (cons_ok a3 rfl) rfl a4 rfl)
end K94
set_option Elab.async false
set_option linter.all false
set_option maxRecDepth 100000
set_option maxHeartbeats 1000000
namespace K94
open PySem PySem.Spec PyProof.Rows L2 Fw
theorem compB {g : Tgt} {elt : Ex} {own : List Nat} {e : Fw.Env} (b : Dt → Bool) {ds : List Dt} (h : ∀ d ∈ ds, ∃ e1, g d e = some e1 ∧ ∃ e3, elt e1 = .ok (.v (.fz (.bl (b d))), e3) ∧ wipeE e3 own = e) :
    compL g tYesX elt own ds e = .ok ((ds.map b).map fun b => .fz (.bl b), e) := by
  have := compL_map (g := g) (t := tYesX) (elt := elt) (own := own) (e := e) (fun _ => true) (fun d => .fz (.bl (b d))) (ds := ds) fun d hd => by
    obtain ⟨e1, h1, e3, h2, h3⟩ := h d hd
    exact ⟨e1, h1, e1, rfl, (fun z => nomatch z), fun _ => ⟨e3, h2, h3⟩⟩
  rw [this, List.filter_eq_self.mpr (fun _ _ => rfl), List.map_map]
  rfl
def intD : Dt → Int
  | .int i => i
  | _ => 0
theorem map_intD (B : Int → Bool) (ns : List Int) : (ns.map Dt.int).map (fun d => B (intD d)) = ns.map B := by rw [List.map_map]; rfl
theorem map_intsD (B : List Int → Bool) (rows : List (List Int)) : (rows.map T).map (fun d => B (intsD d)) = rows.map B := by
  rw [List.map_map]
  apply List.map_congr_left
  intro r _
  show B (intsD (T r)) = B r
  rw [intsD_T]
theorem one_T (ns : List Int) : one elems [.fz (T ns)] = some (ns.map .int) := rfl
theorem one_LT (rows : List (List Int)) : one elems [.fz (LT rows)] = some (rows.map T) := rfl
theorem gIn_T (n : Int) (b : List Int) : gIn [.fz (.int n), .fz (T b)] = some (.fz (.bl (decide (n ∈ b))), [.fz (.int n), .fz (T b)]) := by simp [gIn]
theorem part_all (a b : List Int) : (a.map fun n => decide (n ∈ b)).all id = part a b := by
  unfold part
  rw [List.all_map]
  by_cases h : ∀ x ∈ a, x ∈ b
  · rw [decide_eq_true h]
    exact List.all_eq_true.mpr fun x hx => decide_eq_true (h x hx)
  · rw [decide_eq_false h]
    refine Bool.eq_false_iff.mpr fun z => h fun x hx => of_decide_eq_true (List.all_eq_true.mp z x hx)
theorem part_ok {a b : List Int} (ha : a.length ≤ 64) : f__law_part [.fz (T a), .fz (T b)] = .ok (.fz (.bl (part a b)), [some (.fz (T a)), some (.fz (T b))]) := by
  refine fn_ret (e := [some (.fz (T a)), some (.fz (T b)), none]) (e1 := [some (.fz (T a)), some (.fz (T b)), none]) rfl rfl ?_
  unfold b__law_part
  have h1 := compB (g := gNm 2) (elt := x__law_part_1) (own := [2]) (e := [none, some (.fz (T b)), none]) (fun d => decide (intD d ∈ b)) (ds := a.map .int) fun d hd => by
    obtain ⟨n, _, rfl⟩ := List.mem_map.mp hd
    exact ⟨_, rfl, [none, some (.fz (T b)), some (.fz (.int n))], bin_ok (a := .r 2) (b := .r 1) (e1 := [none, some (.fz (T b)), some (.fz (.int n))]) (e2 := [none, some (.fz (T b)), some (.fz (.int n))]) rfl rfl rfl (gIn_T n b) rfl, rfl⟩
  rw [map_intD (fun n => decide (n ∈ b))] at h1
  have h2 : eLc (aOne (eRef 0)) (one elems) [2] (gNm 2) tYesX x__law_part_1 [some (.fz (T a)), some (.fz (T b)), none] = .ok (.v (.lst ((a.map fun n => decide (n ∈ b)).map fun b => .fz (.bl b))), [some (.fz (T a)), some (.fz (T b)), none]) :=
    lc_ok (as := [.r 0]) (e1 := [some (.fz (T a)), some (.fz (T b)), none]) rfl rfl (one_T a) h1 (by simp; omega)
  have h3 := all_bls (a.map fun n => decide (n ∈ b))
  rw [part_all] at h3
  exact ret_ret (call_ok (as := [.v (.lst ((a.map fun n => decide (n ∈ b)).map fun b => .fz (.bl b)))]) (e1 := [some (.fz (T a)), some (.fz (T b)), none]) (cons_ok h2 rfl) rfl h3 rfl)
def meetL (a b : List Int) : List Int := a.filter fun n => decide (n ∈ b)
/-- [n for n in a if n in b], wherever it stands -/
theorem meetC {t : Tx} {x : Ex} {own : List Nat} {g : Tgt} {e : Fw.Env} {a b : List Int} (h : ∀ n : Int, ∃ e1, g (.int n) e = some e1 ∧ t e1 = .ok (decide (n ∈ b), e1) ∧ x e1 = .ok (.v (.fz (.int n)), e1) ∧ wipeE e1 own = e) :
    compL g t x own (a.map .int) e = .ok ((meetL a b).map fun i => .fz (.int i), e) := by
  have := compL_map (g := g) (t := t) (elt := x) (own := own) (e := e) (fun d => decide (intD d ∈ b)) (fun d => .fz d) (ds := a.map .int) fun d hd => by
    obtain ⟨n, _, rfl⟩ := List.mem_map.mp hd
    obtain ⟨e1, h1, h2, h3, h4⟩ := h n
    exact ⟨e1, h1, e1, h2, fun _ => h4, fun _ => ⟨e1, h3, h4⟩⟩
  rw [this, List.filter_map, List.map_map]
  rfl
theorem tuple_Dr (L : List Int) : gTuple [Dr L] = some (.fz (T L), [Dr L]) := by simp [Dr]
theorem meet_ok {a b : List Int} (ha : a.length ≤ 64) : f_meet [.fz (T a), .fz (T b)] = .ok (.fz (T (meetL a b)), [some (.fz (T a)), some (.fz (T b))]) := by
  refine fn_ret (e := [some (.fz (T a)), some (.fz (T b)), none]) (e1 := [some (.fz (T a)), some (.fz (T b)), none]) rfl rfl ?_
  unfold b_meet
  have h1 := meetC (t := t_meet_1) (x := x_meet_2) (own := [2]) (g := gNm 2) (e := [none, some (.fz (T b)), none]) (a := a) (b := b) fun n => ⟨_, rfl, bl_ok (bin_ok (a := .r 2) (b := .r 1) (e1 := [none, some (.fz (T b)), some (.fz (.int n))]) (e2 := [none, some (.fz (T b)), some (.fz (.int n))]) rfl rfl rfl (gIn_T n b) rfl), rfl, rfl⟩
  have hl : (meetL a b).length ≤ 64 := Nat.le_trans (List.length_filter_le _ _) ha
  have h2 : eLc (aOne (eRef 0)) (one elems) [2] (gNm 2) t_meet_1 x_meet_2 [some (.fz (T a)), some (.fz (T b)), none] = .ok (.v (Dr (meetL a b)), [some (.fz (T a)), some (.fz (T b)), none]) :=
    lc_ok (as := [.r 0]) (e1 := [some (.fz (T a)), some (.fz (T b)), none]) rfl rfl (one_T a) h1 (by simp; omega)
  exact ret_ret (call_ok (as := [.v (Dr (meetL a b))]) (e1 := [some (.fz (T a)), some (.fz (T b)), none]) (cons_ok h2 rfl) rfl (tuple_Dr _) rfl)
def hits (c : List Int) (rows : List (List Int)) : Bool := (rows.map fun r => (c.map fun n => decide (n ∈ r)).any id).all id
theorem meets_ok {c : List Int} {rows : List (List Int)} (hc : c.length ≤ 64) (hr : rows.length ≤ 24) : f_meets_all [.fz (T c), DT rows] = .ok (.fz (.bl (hits c rows)), [some (.fz (T c)), some (DT rows)]) := by
  refine fn_ret (e := [some (.fz (T c)), some (DT rows), none, none]) (e1 := [some (.fz (T c)), some (DT rows), none, none]) rfl rfl ?_
  unfold b_meets_all
  have h1 := compB (g := gNm 2) (elt := x_meets_all_2) (own := [2]) (e := [some (.fz (T c)), none, none, none]) (fun d => (c.map fun n => decide (n ∈ intsD d)).any id) (ds := rows.map T) fun d hd => by
    obtain ⟨r, _, rfl⟩ := List.mem_map.mp hd
    rw [intsD_T]
    have h1 := compB (g := gNm 3) (elt := x_meets_all_1) (own := [3]) (e := [none, none, some (.fz (T r)), none]) (fun d => decide (intD d ∈ r)) (ds := c.map .int) fun d hd => by
      obtain ⟨n, _, rfl⟩ := List.mem_map.mp hd
      exact ⟨_, rfl, [none, none, some (.fz (T r)), some (.fz (.int n))], bin_ok (a := .r 3) (b := .r 2) (e1 := [none, none, some (.fz (T r)), some (.fz (.int n))]) (e2 := [none, none, some (.fz (T r)), some (.fz (.int n))]) rfl rfl rfl (gIn_T n r) rfl, rfl⟩
    rw [map_intD (fun n => decide (n ∈ r))] at h1
    have h2 : eLc (aOne (eRef 0)) (one elems) [3] (gNm 3) tYesX x_meets_all_1 [some (.fz (T c)), none, some (.fz (T r)), none] = .ok (.v (.lst ((c.map fun n => decide (n ∈ r)).map fun b => .fz (.bl b))), [some (.fz (T c)), none, some (.fz (T r)), none]) :=
      lc_ok (as := [.r 0]) (e1 := [some (.fz (T c)), none, some (.fz (T r)), none]) rfl rfl (one_T c) h1 (by simp; omega)
    exact ⟨_, rfl, [some (.fz (T c)), none, some (.fz (T r)), none], call_ok (as := [.v (.lst ((c.map fun n => decide (n ∈ r)).map fun b => .fz (.bl b)))]) (e1 := [some (.fz (T c)), none, some (.fz (T r)), none]) (cons_ok h2 rfl) rfl (any_bls _) rfl, rfl⟩
  rw [map_intsD (fun r => (c.map fun n => decide (n ∈ r)).any id)] at h1
  have h2 : eLc (aOne (eRef 1)) (one elems) [2] (gNm 2) tYesX x_meets_all_2 [some (.fz (T c)), some (DT rows), none, none] = .ok (.v (.lst ((rows.map fun r => (c.map fun n => decide (n ∈ r)).any id).map fun b => .fz (.bl b))), [some (.fz (T c)), some (DT rows), none, none]) :=
    lc_ok (as := [.r 1]) (e1 := [some (.fz (T c)), some (DT rows), none, none]) rfl rfl (one_DT rows) h1 (by simp; omega)
  exact ret_ret (call_ok (as := [.v (.lst ((rows.map fun r => (c.map fun n => decide (n ∈ r)).any id).map fun b => .fz (.bl b)))]) (e1 := [some (.fz (T c)), some (DT rows), none, none]) (cons_ok h2 rfl) rfl (all_bls _) rfl)
end K94
set_option Elab.async false
set_option linter.all false
set_option maxRecDepth 100000
set_option maxHeartbeats 1000000
namespace K94
open PySem PySem.Spec PyProof.Rows L2 Fw
theorem or_ff {f g : Tx} {e e1 : Fw.Env} {b : Bool} {e2 : Fw.Env} (h : f e = .ok (false, e1)) (h2 : g e1 = .ok (b, e2)) : tOrX f g e = .ok (b, e2) := by
  unfold tOrX
  rw [h]
  exact h2
theorem and_t {f g : Ex} {e e1 e2 : Fw.Env} {a : Fw.Arg} (h : f e = .ok (.v (.fz (.bl true)), e1)) (h2 : g e1 = .ok (a, e2)) : eAnd f g e = .ok (a, e2) := by
  unfold eAnd
  rw [h]
  exact h2
theorem and_f {f g : Ex} {e e1 : Fw.Env} (h : f e = .ok (.v (.fz (.bl false)), e1)) : eAnd f g e = .ok (.v (.fz (.bl false)), e1) := by
  unfold eAnd
  rw [h]
  rfl
theorem ne_TT (a b : List Int) : gNe [.fz (T a), .fz (T b)] = some (.fz (.bl (!decide (a = b))), [.fz (T a), .fz (T b)]) := by simp
theorem ne_DT (a b : List (List Int)) : gNe [DT a, DT b] = some (.fz (.bl (!decide (a = b))), [DT a, DT b]) := by simp [DT]
theorem ne_DTL (a b : List (List Int)) : gNe [DT a, .fz (LT b)] = some (.fz (.bl (!decide (a = b))), [DT a, .fz (LT b)]) := by simp [DT]
theorem ne_Lnil (a : List (List Int)) : gNe [.fz (LT a), .lst []] = some (.fz (.bl (!decide (a = []))), [.fz (LT a), .lst []]) := by
  have := ne_LTnil a
  simp
theorem len_LT (a : List (List Int)) : gLen [.fz (LT a)] = some (.fz (.int a.length), [.fz (LT a)]) := by simp
theorem ix_LT {rows : List (List Int)} {r : Int} (h0 : 0 ≤ r) (h1 : r < rows.length) : ∃ ns, ns ∈ rows ∧ gIx [.fz (LT rows), .fz (.int r)] = some (.fz (T ns), [.fz (LT rows), .fz (.int r)]) := by
  obtain ⟨k, rfl⟩ := Int.eq_ofNat_of_zero_le h0
  have hk : k < rows.length := by omega
  refine ⟨rows[k], List.getElem_mem hk, ?_⟩
  have e : atI (rows.map T) (k : Int) = some (T rows[k]) := by
    unfold atI ixN
    simp [hk]
  simp [e]
section
variable {s x1 t x3 x5 x6 x7 x8 x9 x10 x11 x12 : Option Sv} {m : Int} {rows : List (List Int)}
/-- the inner walk of high and low -/
theorem inner_ok {x : Ex} {a : List Int} {B : List Int → Bool} (hx : ∀ o ∈ rows, x [s, x1, t, x3, none, x5, x6, x7, x8, x9, x10, x11, x12, some (.fz (T a)), some (.fz (T o)), none] = .ok (.v (.fz (.bl (B o))), [s, x1, t, x3, none, x5, x6, x7, x8, x9, x10, x11, x12, some (.fz (T a)), some (.fz (T o)), none])) (hz : rows.length ≤ 24) :
    tNotX (tOf (eCall gAny (aCons (eLc (aOne (eRef 4)) (one elems) [14] (gNm 14) tYesX x) aNil))) [s, x1, t, x3, some (.fz (LT rows)), x5, x6, x7, x8, x9, x10, x11, x12, some (.fz (T a)), none, none] = .ok (!rows.any B, [s, x1, t, x3, some (.fz (LT rows)), x5, x6, x7, x8, x9, x10, x11, x12, some (.fz (T a)), none, none]) := by
  have h1 := compB (g := gNm 14) (elt := x) (own := [14]) (e := [s, x1, t, x3, none, x5, x6, x7, x8, x9, x10, x11, x12, some (.fz (T a)), none, none]) (fun d => B (intsD d)) (ds := rows.map T) fun d hd => by
    obtain ⟨o, ho, rfl⟩ := List.mem_map.mp hd
    rw [intsD_T]
    exact ⟨_, rfl, _, hx o ho, rfl⟩
  rw [map_intsD B] at h1
  have h2 : eLc (aOne (eRef 4)) (one elems) [14] (gNm 14) tYesX x [s, x1, t, x3, some (.fz (LT rows)), x5, x6, x7, x8, x9, x10, x11, x12, some (.fz (T a)), none, none] = .ok (.v (.lst ((rows.map B).map fun b => .fz (.bl b))), [s, x1, t, x3, some (.fz (LT rows)), x5, x6, x7, x8, x9, x10, x11, x12, some (.fz (T a)), none, none]) :=
    lc_ok (as := [.r 4]) (e1 := [s, x1, t, x3, some (.fz (LT rows)), x5, x6, x7, x8, x9, x10, x11, x12, some (.fz (T a)), none, none]) rfl rfl (one_LT rows) h1 (by simp; omega)
  have h3 := any_bls (rows.map B)
  rw [List.any_map] at h3
  exact not_ok (of_bl (call_ok (as := [.v (.lst ((rows.map B).map fun b => .fz (.bl b)))]) (e1 := [s, x1, t, x3, some (.fz (LT rows)), x5, x6, x7, x8, x9, x10, x11, x12, some (.fz (T a)), none, none]) (cons_ok h2 rfl) rfl h3 rfl))
theorem xlaw1 {a o : List Int} (ha : a.length ≤ 64) : x_law_1 [s, x1, t, x3, none, x5, x6, x7, x8, x9, x10, x11, x12, some (.fz (T a)), some (.fz (T o)), none] = .ok (.v (.fz (.bl (!decide (a = o) && part a o))), [s, x1, t, x3, none, x5, x6, x7, x8, x9, x10, x11, x12, some (.fz (T a)), some (.fz (T o)), none]) := by
  have h1 : eBin gNe (eRef 13) (eRef 14) [s, x1, t, x3, none, x5, x6, x7, x8, x9, x10, x11, x12, some (.fz (T a)), some (.fz (T o)), none] = .ok (.v (.fz (.bl (!decide (a = o)))), [s, x1, t, x3, none, x5, x6, x7, x8, x9, x10, x11, x12, some (.fz (T a)), some (.fz (T o)), none]) :=
    bin_ok (a := .r 13) (b := .r 14) (e1 := [s, x1, t, x3, none, x5, x6, x7, x8, x9, x10, x11, x12, some (.fz (T a)), some (.fz (T o)), none]) (e2 := [s, x1, t, x3, none, x5, x6, x7, x8, x9, x10, x11, x12, some (.fz (T a)), some (.fz (T o)), none]) rfl rfl rfl (ne_TT a o) rfl
  have h2 : eOwn f__law_part (aCons (eRef 13) (aCons (eRef 14) aNil)) [s, x1, t, x3, none, x5, x6, x7, x8, x9, x10, x11, x12, some (.fz (T a)), some (.fz (T o)), none] = .ok (.v (.fz (.bl (part a o))), [s, x1, t, x3, none, x5, x6, x7, x8, x9, x10, x11, x12, some (.fz (T a)), some (.fz (T o)), none]) :=
    own_ok (as := [.r 13, .r 14]) (e1 := [s, x1, t, x3, none, x5, x6, x7, x8, x9, x10, x11, x12, some (.fz (T a)), some (.fz (T o)), none]) (e2 := [s, x1, t, x3, none, x5, x6, x7, x8, x9, x10, x11, x12, none, none, none]) rfl rfl (part_ok ha)
  unfold x_law_1
  cases hb : decide (a = o) with
  | true => rw [hb] at h1; exact fz_ok (and_f h1)
  | false => rw [hb] at h1; exact fz_ok (and_t h1 h2)
theorem xlaw4 {a o : List Int} (ho : o.length ≤ 64) : x_law_4 [s, x1, t, x3, none, x5, x6, x7, x8, x9, x10, x11, x12, some (.fz (T a)), some (.fz (T o)), none] = .ok (.v (.fz (.bl (!decide (a = o) && part o a))), [s, x1, t, x3, none, x5, x6, x7, x8, x9, x10, x11, x12, some (.fz (T a)), some (.fz (T o)), none]) := by
  have h1 : eBin gNe (eRef 13) (eRef 14) [s, x1, t, x3, none, x5, x6, x7, x8, x9, x10, x11, x12, some (.fz (T a)), some (.fz (T o)), none] = .ok (.v (.fz (.bl (!decide (a = o)))), [s, x1, t, x3, none, x5, x6, x7, x8, x9, x10, x11, x12, some (.fz (T a)), some (.fz (T o)), none]) :=
    bin_ok (a := .r 13) (b := .r 14) (e1 := [s, x1, t, x3, none, x5, x6, x7, x8, x9, x10, x11, x12, some (.fz (T a)), some (.fz (T o)), none]) (e2 := [s, x1, t, x3, none, x5, x6, x7, x8, x9, x10, x11, x12, some (.fz (T a)), some (.fz (T o)), none]) rfl rfl rfl (ne_TT a o) rfl
  have h2 : eOwn f__law_part (aCons (eRef 14) (aCons (eRef 13) aNil)) [s, x1, t, x3, none, x5, x6, x7, x8, x9, x10, x11, x12, some (.fz (T a)), some (.fz (T o)), none] = .ok (.v (.fz (.bl (part o a))), [s, x1, t, x3, none, x5, x6, x7, x8, x9, x10, x11, x12, some (.fz (T a)), some (.fz (T o)), none]) :=
    own_ok (as := [.r 14, .r 13]) (e1 := [s, x1, t, x3, none, x5, x6, x7, x8, x9, x10, x11, x12, some (.fz (T a)), some (.fz (T o)), none]) (e2 := [s, x1, t, x3, none, x5, x6, x7, x8, x9, x10, x11, x12, none, none, none]) rfl rfl (part_ok ho)
  unfold x_law_4
  cases hb : decide (a = o) with
  | true => rw [hb] at h1; exact fz_ok (and_f h1)
  | false => rw [hb] at h1; exact fz_ok (and_t h1 h2)
/-- high, low -/
theorem outer_ok {t2 : Tx} {x2 : Ex} {B : List Int → Bool} {f4 : Ex} {r4 : Option Sv} (h4 : f4 [s, x1, t, x3, r4, x5, x6, x7, x8, x9, x10, x11, x12, none, none, none] = .ok (.v (.fz (LT rows)), [s, x1, t, x3, some (.fz (LT rows)), x5, x6, x7, x8, x9, x10, x11, x12, none, none, none]))
    (ht : ∀ a ∈ rows, t2 [s, x1, t, x3, some (.fz (LT rows)), x5, x6, x7, x8, x9, x10, x11, x12, some (.fz (T a)), none, none] = .ok (B a, [s, x1, t, x3, some (.fz (LT rows)), x5, x6, x7, x8, x9, x10, x11, x12, some (.fz (T a)), none, none])) (hx : x2 = eVar 13) (hz : rows.length ≤ 24) :
    eLc (aOne f4) (one elems) [13] (gNm 13) t2 x2 [s, x1, t, x3, r4, x5, x6, x7, x8, x9, x10, x11, x12, none, none, none] = .ok (.v (DT (rows.filter B)), [s, x1, t, x3, some (.fz (LT rows)), x5, x6, x7, x8, x9, x10, x11, x12, none, none, none]) := by
  have h1 := compL_map (g := gNm 13) (t := t2) (elt := x2) (own := [13]) (e := [s, x1, t, x3, some (.fz (LT rows)), x5, x6, x7, x8, x9, x10, x11, x12, none, none, none]) (fun d => B (intsD d)) (fun d => .fz d) (ds := rows.map T) fun d hd => by
    obtain ⟨a, ha, rfl⟩ := List.mem_map.mp hd
    rw [intsD_T]
    refine ⟨_, rfl, _, ht a ha, fun _ => rfl, fun _ => ⟨[s, x1, t, x3, some (.fz (LT rows)), x5, x6, x7, x8, x9, x10, x11, x12, some (.fz (T a)), none, none], ?_, rfl⟩⟩
    rw [hx]
    rfl
  have e1 : ((rows.map T).filter fun d => B (intsD d)).map (fun d => Sv.fz d) = (rows.filter B).map fun x => Sv.fz (T x) := by
    rw [List.filter_map, List.map_map]
    have : (fun d => B (intsD d)) ∘ T = B := funext fun r => by show B (intsD (T r)) = B r; rw [intsD_T]
    rw [this]
    rfl
  rw [e1] at h1
  exact lc_ok (as := [.v (.fz (LT rows))]) (e1 := [s, x1, t, x3, some (.fz (LT rows)), x5, x6, x7, x8, x9, x10, x11, x12, none, none, none]) (one_ok h4) rfl (one_LT rows) h1 (by
    have := List.length_filter_le B rows
    simp
    omega)
/-- a turn over one body -/
theorem turn_body {c : List Int} {x3 : Option Sv} (hc : c.length ≤ 64) (hz : rows.length ≤ 24) : l_law_11 [s, x1, t, x3, some (.fz (LT rows)), some (DT rows), x6, x7, x8, x9, some (.fz (T c)), x11, x12, none, none, none] = .next [s, x1, t, x3, some (.fz (LT rows)), some (DT rows), x6, x7, x8, x9, some (.fz (T c)), some (.fz (.bl (hits c rows))), some (.fz (.bl (hits c rows))), none, none, none] := by
  have h1 := compB (g := gNm 13) (elt := x_law_10) (own := [13]) (e := [s, x1, t, x3, none, some (DT rows), x6, x7, x8, x9, some (.fz (T c)), x11, x12, none, none, none]) (fun d => (c.map fun n => decide (n ∈ intsD d)).any id) (ds := rows.map T) fun d hd => by
    obtain ⟨r, _, rfl⟩ := List.mem_map.mp hd
    rw [intsD_T]
    have h1 := compB (g := gNm 15) (elt := x_law_9) (own := [15]) (e := [s, x1, t, x3, none, some (DT rows), x6, x7, x8, x9, none, x11, x12, some (.fz (T r)), none, none]) (fun d => decide (intD d ∈ r)) (ds := c.map .int) fun d hd => by
      obtain ⟨n, _, rfl⟩ := List.mem_map.mp hd
      exact ⟨_, rfl, [s, x1, t, x3, none, some (DT rows), x6, x7, x8, x9, none, x11, x12, some (.fz (T r)), none, some (.fz (.int n))], bin_ok (a := .r 15) (b := .r 13) (e1 := [s, x1, t, x3, none, some (DT rows), x6, x7, x8, x9, none, x11, x12, some (.fz (T r)), none, some (.fz (.int n))]) (e2 := [s, x1, t, x3, none, some (DT rows), x6, x7, x8, x9, none, x11, x12, some (.fz (T r)), none, some (.fz (.int n))]) rfl rfl rfl (gIn_T n r) rfl, rfl⟩
    rw [map_intD (fun n => decide (n ∈ r))] at h1
    have h2 : eLc (aOne (eRef 10)) (one elems) [15] (gNm 15) tYesX x_law_9 [s, x1, t, x3, none, some (DT rows), x6, x7, x8, x9, some (.fz (T c)), x11, x12, some (.fz (T r)), none, none] = .ok (.v (.lst ((c.map fun n => decide (n ∈ r)).map fun b => .fz (.bl b))), [s, x1, t, x3, none, some (DT rows), x6, x7, x8, x9, some (.fz (T c)), x11, x12, some (.fz (T r)), none, none]) :=
      lc_ok (as := [.r 10]) (e1 := [s, x1, t, x3, none, some (DT rows), x6, x7, x8, x9, some (.fz (T c)), x11, x12, some (.fz (T r)), none, none]) rfl rfl (one_T c) h1 (by simp; omega)
    exact ⟨_, rfl, [s, x1, t, x3, none, some (DT rows), x6, x7, x8, x9, some (.fz (T c)), x11, x12, some (.fz (T r)), none, none], call_ok (as := [.v (.lst ((c.map fun n => decide (n ∈ r)).map fun b => .fz (.bl b)))]) (e1 := [s, x1, t, x3, none, some (DT rows), x6, x7, x8, x9, some (.fz (T c)), x11, x12, some (.fz (T r)), none, none]) (cons_ok h2 rfl) rfl (any_bls _) rfl, rfl⟩
  rw [map_intsD (fun r => (c.map fun n => decide (n ∈ r)).any id)] at h1
  have h2 : eLc (aOne (eRef 4)) (one elems) [13] (gNm 13) tYesX x_law_10 [s, x1, t, x3, some (.fz (LT rows)), some (DT rows), x6, x7, x8, x9, some (.fz (T c)), x11, x12, none, none, none] = .ok (.v (.lst ((rows.map fun r => (c.map fun n => decide (n ∈ r)).any id).map fun b => .fz (.bl b))), [s, x1, t, x3, some (.fz (LT rows)), some (DT rows), x6, x7, x8, x9, some (.fz (T c)), x11, x12, none, none, none]) :=
    lc_ok (as := [.r 4]) (e1 := [s, x1, t, x3, some (.fz (LT rows)), some (DT rows), x6, x7, x8, x9, some (.fz (T c)), x11, x12, none, none, none]) rfl rfl (one_LT rows) h1 (by simp; omega)
  unfold l_law_11
  refine (seq_next (set_next (i := 11) (e1 := [s, x1, t, x3, some (.fz (LT rows)), some (DT rows), x6, x7, x8, x9, some (.fz (T c)), x11, x12, none, none, none]) (call_ok (as := [.v (.lst ((rows.map fun r => (c.map fun n => decide (n ∈ r)).any id).map fun b => .fz (.bl b)))]) (e1 := [s, x1, t, x3, some (.fz (LT rows)), some (DT rows), x6, x7, x8, x9, some (.fz (T c)), x11, x12, none, none, none]) (cons_ok h2 rfl) rfl (all_bls _) rfl) (by simp))).trans ?_
  refine (seq_next (set_next (i := 12) (e1 := [s, x1, t, x3, some (.fz (LT rows)), some (DT rows), x6, x7, x8, x9, some (.fz (T c)), some (.fz (.bl (hits c rows))), x12, none, none, none]) (own_ok (as := [.r 10, .r 5]) (e1 := [s, x1, t, x3, some (.fz (LT rows)), some (DT rows), x6, x7, x8, x9, some (.fz (T c)), some (.fz (.bl (hits c rows))), x12, none, none, none]) (e2 := [s, x1, t, x3, some (.fz (LT rows)), none, x6, x7, x8, x9, none, some (.fz (.bl (hits c rows))), x12, none, none, none]) rfl rfl (meets_ok hc hz)) (by simp))).trans ?_
  refine (if_f (e1 := [s, x1, t, x3, some (.fz (LT rows)), some (DT rows), x6, x7, x8, x9, some (.fz (T c)), some (.fz (.bl (hits c rows))), some (.fz (.bl (hits c rows))), none, none, none]) ?_).trans rfl
  refine or_ff (e1 := [s, x1, t, x3, some (.fz (LT rows)), some (DT rows), x6, x7, x8, x9, some (.fz (T c)), some (.fz (.bl (hits c rows))), some (.fz (.bl (hits c rows))), none, none, none]) rfl ?_
  refine bl_ok (bin_ok (a := .r 12) (b := .r 11) (e1 := [s, x1, t, x3, some (.fz (LT rows)), some (DT rows), x6, x7, x8, x9, some (.fz (T c)), some (.fz (.bl (hits c rows))), some (.fz (.bl (hits c rows))), none, none, none]) (e2 := [s, x1, t, x3, some (.fz (LT rows)), some (DT rows), x6, x7, x8, x9, some (.fz (T c)), some (.fz (.bl (hits c rows))), some (.fz (.bl (hits c rows))), none, none, none]) rfl rfl rfl (ss' := [.fz (.bl (hits c rows)), .fz (.bl (hits c rows))]) ?_ rfl)
  simp
end
end K94
set_option Elab.async false
set_option linter.all false
set_option maxRecDepth 100000
set_option maxHeartbeats 1000000
namespace K94
open PySem PySem.Spec PyProof.Rows L2 Fw
theorem list_DT (a : List (List Int)) : gList [DT a] = some (DT a, [DT a]) := by simp [DT]
theorem own_tuple {L L' : List Int} {m : Int} {ns : List Int} {s t : Option Sv} {rest : Fw.Env} (h : f__law_tuple [Dr L, .fz (.int m)] = .ok (.fz (T ns), [some (Dr L'), some (.fz (.int m))])) :
    eFz (eOwn f__law_tuple (aCons (eRef 1) (aCons (eRef 3) aNil))) (s :: some (Dr L) :: t :: some (.fz (.int m)) :: rest) = .ok (.v (.fz (T ns)), s :: some (Dr L') :: t :: some (.fz (.int m)) :: rest) :=
  fz_ok (s := .fz (T ns)) (own_ok (as := [.r 1, .r 3]) (e1 := s :: some (Dr L) :: t :: some (.fz (.int m)) :: rest) (e2 := s :: none :: t :: none :: rest) rfl rfl h)
theorem frz_DT (rows : List (List Int)) : (DT rows).frz = LT rows := by
  show Dt.lst (frzs (rows.map fun x => Sv.fz (T x))) = Dt.lst (rows.map T)
  congr 1
  induction rows with
  | nil => rfl
  | cons a r ih => rw [List.map_cons, List.map_cons, frzs, ih]; rfl
theorem frz4 {s x1 t x3 x5 x6 x7 x8 x9 x10 x11 x12 : Option Sv} {rows : List (List Int)} : eFrz 4 [s, x1, t, x3, some (DT rows), x5, x6, x7, x8, x9, x10, x11, x12, none, none, none] = .ok (.v (.fz (LT rows)), [s, x1, t, x3, some (.fz (LT rows)), x5, x6, x7, x8, x9, x10, x11, x12, none, none, none]) := by
  rw [← frz_DT]
  rfl
theorem turn_law {s t x3 x4 x5 x6 x7 x8 x9 x10 x11 x12 : Option Sv} (L : List Int) : ∃ L' y3 y4 y5 y6 y7 y8 y9 y10 y11 y12, l_law_12 [s, some (Dr L), t, x3, x4, x5, x6, x7, x8, x9, x10, x11, x12, none, none, none] = .next [s, some (Dr L'), t, y3, y4, y5, y6, y7, y8, y9, y10, y11, y12, none, none, none] := by
  obtain ⟨r, L1, h1, h2, h3⟩ := take_ex L 4 (by omega)
  have key : ∃ m : Int, 0 < m ∧ m ≤ 200 ∧ gIx [.lst [.fz (.int 4), .fz (.int 9), .fz (.int 30), .fz (.int 200)], .fz (.int r)] = some (.fz (.int m), [.lst [.fz (.int 4), .fz (.int 9), .fz (.int 30), .fz (.int 200)], .fz (.int r)]) := by
    have : r = 0 ∨ r = 1 ∨ r = 2 ∨ r = 3 := by omega
    rcases this with rfl | rfl | rfl | rfl
    · exact ⟨4, by omega, by omega, rfl⟩
    · exact ⟨9, by omega, by omega, rfl⟩
    · exact ⟨30, by omega, by omega, rfl⟩
    · exact ⟨200, by omega, by omega, rfl⟩
  obtain ⟨m, hm0, hm, hix⟩ := key
  obtain ⟨L2, rows, h4, hS, hz⟩ := sets_ex L1 m hm0
  obtain ⟨L3, fa, h5, hfa⟩ := tuple_ex L2 m hm0
  obtain ⟨L4, sa, h6, hsa⟩ := tuple_ex L3 m hm0
  have few : ∀ a ∈ rows, a.length ≤ 64 := fun a ha => (hS.2 a ha).few
  unfold l_law_12
  -- most
  have s1 : sSet 3 (eBin gIx (eLst (aCons (eC (.int 4)) (aCons (eC (.int 9)) (aCons (eC (.int 30)) (aCons (eC (.int 200)) aNil))))) (eOwn f__law_take (aCons (eRef 1) (aCons (eC (.int 4)) aNil)))) [s, some (Dr L), t, x3, x4, x5, x6, x7, x8, x9, x10, x11, x12, none, none, none] = .next [s, some (Dr L1), t, some (.fz (.int m)), x4, x5, x6, x7, x8, x9, x10, x11, x12, none, none, none] :=
    set_next (e1 := [s, some (Dr L1), t, x3, x4, x5, x6, x7, x8, x9, x10, x11, x12, none, none, none]) (bin_ok (a := .v (.lst [.fz (.int 4), .fz (.int 9), .fz (.int 30), .fz (.int 200)])) (e1 := [s, some (Dr L), t, x3, x4, x5, x6, x7, x8, x9, x10, x11, x12, none, none, none]) rfl (own_take1 h1) rfl hix rfl) (by simp)
  -- rows, given
  have s2 : sSet 4 (eOwn f__law_sets (aCons (eRef 1) (aCons (eRef 3) aNil))) [s, some (Dr L1), t, some (.fz (.int m)), x4, x5, x6, x7, x8, x9, x10, x11, x12, none, none, none] = .next [s, some (Dr L2), t, some (.fz (.int m)), some (DT rows), x5, x6, x7, x8, x9, x10, x11, x12, none, none, none] :=
    set_next (e1 := [s, some (Dr L2), t, some (.fz (.int m)), x4, x5, x6, x7, x8, x9, x10, x11, x12, none, none, none]) (own_ok (as := [.r 1, .r 3]) (e1 := [s, some (Dr L1), t, some (.fz (.int m)), x4, x5, x6, x7, x8, x9, x10, x11, x12, none, none, none]) (e2 := [s, none, t, none, x4, x5, x6, x7, x8, x9, x10, x11, x12, none, none, none]) rfl rfl h4) (by simp)
  have s3 : sSet 5 (eCall gList (aCons (eRef 4) aNil)) [s, some (Dr L2), t, some (.fz (.int m)), some (DT rows), x5, x6, x7, x8, x9, x10, x11, x12, none, none, none] = .next [s, some (Dr L2), t, some (.fz (.int m)), some (DT rows), some (DT rows), x6, x7, x8, x9, x10, x11, x12, none, none, none] :=
    set_next (e1 := [s, some (Dr L2), t, some (.fz (.int m)), some (DT rows), x5, x6, x7, x8, x9, x10, x11, x12, none, none, none]) (call_ok (as := [.r 4]) (e1 := [s, some (Dr L2), t, some (.fz (.int m)), some (DT rows), x5, x6, x7, x8, x9, x10, x11, x12, none, none, none]) rfl rfl (list_DT rows) rfl) (by simp)
  -- high, low
  have s4 : sSet 6 (eLc (aOne (eFrz 4)) (one elems) [13] (gNm 13) t_law_2 x_law_3) [s, some (Dr L2), t, some (.fz (.int m)), some (DT rows), some (DT rows), x6, x7, x8, x9, x10, x11, x12, none, none, none] = .next [s, some (Dr L2), t, some (.fz (.int m)), some (.fz (LT rows)), some (DT rows), some (DT (highs rows)), x7, x8, x9, x10, x11, x12, none, none, none] :=
    set_next (e1 := [s, some (Dr L2), t, some (.fz (.int m)), some (.fz (LT rows)), some (DT rows), x6, x7, x8, x9, x10, x11, x12, none, none, none]) (outer_ok (B := fun r => !rows.any fun o => !decide (r = o) && part r o) frz4 (fun a ha => inner_ok (fun o _ => xlaw1 (few a ha)) hz) rfl hz) (by simp)
  have s5 : sSet 7 (eLc (aOne (eFrz 4)) (one elems) [13] (gNm 13) t_law_5 x_law_6) [s, some (Dr L2), t, some (.fz (.int m)), some (.fz (LT rows)), some (DT rows), some (DT (highs rows)), x7, x8, x9, x10, x11, x12, none, none, none] = .next [s, some (Dr L2), t, some (.fz (.int m)), some (.fz (LT rows)), some (DT rows), some (DT (highs rows)), some (DT (lows rows)), x8, x9, x10, x11, x12, none, none, none] :=
    set_next (e1 := [s, some (Dr L2), t, some (.fz (.int m)), some (.fz (LT rows)), some (DT rows), some (DT (highs rows)), x7, x8, x9, x10, x11, x12, none, none, none]) (outer_ok (B := fun r => !rows.any fun o => !decide (r = o) && part o r) rfl (fun a _ => inner_ok (fun o ho => xlaw4 (few o ho)) hz) rfl hz) (by simp)
  -- what the program says of them
  have ndH : (highs rows).Nodup := hS.1.sublist List.filter_sublist
  have ndL : (lows rows).Nodup := hS.1.sublist List.filter_sublist
  have sH : Srt1 (highs rows) := srt1_of ndH fun x hx y hy hne => (mem_highs.mp hx).2 y (mem_highs.mp hy).1 fun e => hne e.symm
  have sL : Srt1 (lows rows) := srt1_of ndL fun x hx y hy hne => (mem_lows.mp hy).2 x (mem_lows.mp hx).1 hne
  have oG : eOwn f_greatest (aCons (eRef 5) aNil) [s, some (Dr L2), t, some (.fz (.int m)), some (.fz (LT rows)), some (DT rows), some (DT (highs rows)), some (DT (lows rows)), x8, x9, x10, x11, x12, none, none, none] = .ok (.v (DT (srtT (highs rows))), [s, some (Dr L2), t, some (.fz (.int m)), some (.fz (LT rows)), some (DT rows), some (DT (highs rows)), some (DT (lows rows)), x8, x9, x10, x11, x12, none, none, none]) := own_ok (as := [.r 5]) (e1 := [s, some (Dr L2), t, some (.fz (.int m)), some (.fz (LT rows)), some (DT rows), some (DT (highs rows)), some (DT (lows rows)), x8, x9, x10, x11, x12, none, none, none]) (e2 := [s, some (Dr L2), t, some (.fz (.int m)), some (.fz (LT rows)), none, some (DT (highs rows)), some (DT (lows rows)), x8, x9, x10, x11, x12, none, none, none]) rfl rfl (greatest_ok hS hm hz)
  have oL : eOwn f_least (aCons (eRef 5) aNil) [s, some (Dr L2), t, some (.fz (.int m)), some (.fz (LT rows)), some (DT rows), some (DT (highs rows)), some (DT (lows rows)), x8, x9, x10, x11, x12, none, none, none] = .ok (.v (DT (srtT (lows rows))), [s, some (Dr L2), t, some (.fz (.int m)), some (.fz (LT rows)), some (DT rows), some (DT (highs rows)), some (DT (lows rows)), x8, x9, x10, x11, x12, none, none, none]) := own_ok (as := [.r 5]) (e1 := [s, some (Dr L2), t, some (.fz (.int m)), some (.fz (LT rows)), some (DT rows), some (DT (highs rows)), some (DT (lows rows)), x8, x9, x10, x11, x12, none, none, none]) (e2 := [s, some (Dr L2), t, some (.fz (.int m)), some (.fz (LT rows)), none, some (DT (highs rows)), some (DT (lows rows)), x8, x9, x10, x11, x12, none, none, none]) rfl rfl (least_all hS hm hz)
  have pG : eCall (gSorted false) (aCons (eOwn f_greatest (aCons (eRef 5) aNil)) aNil) [s, some (Dr L2), t, some (.fz (.int m)), some (.fz (LT rows)), some (DT rows), some (DT (highs rows)), some (DT (lows rows)), x8, x9, x10, x11, x12, none, none, none] = .ok (.v (DT (srtT (highs rows))), [s, some (Dr L2), t, some (.fz (.int m)), some (.fz (LT rows)), some (DT rows), some (DT (highs rows)), some (DT (lows rows)), x8, x9, x10, x11, x12, none, none, none]) := call_ok (as := [.v (DT (srtT (highs rows)))]) (e1 := [s, some (Dr L2), t, some (.fz (.int m)), some (.fz (LT rows)), some (DT rows), some (DT (highs rows)), some (DT (lows rows)), x8, x9, x10, x11, x12, none, none, none]) (cons_ok oG rfl) rfl (by rw [sorted_T (sH.perm (srtT_perm _).symm), srtT_idem]) rfl
  have pH : eCall (gSorted false) (aCons (eRef 6) aNil) [s, some (Dr L2), t, some (.fz (.int m)), some (.fz (LT rows)), some (DT rows), some (DT (highs rows)), some (DT (lows rows)), x8, x9, x10, x11, x12, none, none, none] = .ok (.v (DT (srtT (highs rows))), [s, some (Dr L2), t, some (.fz (.int m)), some (.fz (LT rows)), some (DT rows), some (DT (highs rows)), some (DT (lows rows)), x8, x9, x10, x11, x12, none, none, none]) := call_ok (as := [.r 6]) (e1 := [s, some (Dr L2), t, some (.fz (.int m)), some (.fz (LT rows)), some (DT rows), some (DT (highs rows)), some (DT (lows rows)), x8, x9, x10, x11, x12, none, none, none]) rfl rfl (sorted_T sH) rfl
  have pL : eCall (gSorted false) (aCons (eOwn f_least (aCons (eRef 5) aNil)) aNil) [s, some (Dr L2), t, some (.fz (.int m)), some (.fz (LT rows)), some (DT rows), some (DT (highs rows)), some (DT (lows rows)), x8, x9, x10, x11, x12, none, none, none] = .ok (.v (DT (srtT (lows rows))), [s, some (Dr L2), t, some (.fz (.int m)), some (.fz (LT rows)), some (DT rows), some (DT (highs rows)), some (DT (lows rows)), x8, x9, x10, x11, x12, none, none, none]) := call_ok (as := [.v (DT (srtT (lows rows)))]) (e1 := [s, some (Dr L2), t, some (.fz (.int m)), some (.fz (LT rows)), some (DT rows), some (DT (highs rows)), some (DT (lows rows)), x8, x9, x10, x11, x12, none, none, none]) (cons_ok oL rfl) rfl (by rw [sorted_T (sL.perm (srtT_perm _).symm), srtT_idem]) rfl
  have pW : eCall (gSorted false) (aCons (eRef 7) aNil) [s, some (Dr L2), t, some (.fz (.int m)), some (.fz (LT rows)), some (DT rows), some (DT (highs rows)), some (DT (lows rows)), x8, x9, x10, x11, x12, none, none, none] = .ok (.v (DT (srtT (lows rows))), [s, some (Dr L2), t, some (.fz (.int m)), some (.fz (LT rows)), some (DT rows), some (DT (highs rows)), some (DT (lows rows)), x8, x9, x10, x11, x12, none, none, none]) := call_ok (as := [.r 7]) (e1 := [s, some (Dr L2), t, some (.fz (.int m)), some (.fz (LT rows)), some (DT rows), some (DT (highs rows)), some (DT (lows rows)), x8, x9, x10, x11, x12, none, none, none]) rfl rfl (sorted_T sL) rfl
  have nG : gNe [DT (srtT (highs rows)), DT (srtT (highs rows))] = some (.fz (.bl false), [DT (srtT (highs rows)), DT (srtT (highs rows))]) := by rw [ne_DT, decide_eq_true rfl]; rfl
  have nL : gNe [DT (srtT (lows rows)), DT (srtT (lows rows))] = some (.fz (.bl false), [DT (srtT (lows rows)), DT (srtT (lows rows))]) := by rw [ne_DT, decide_eq_true rfl]; rfl
  have nR : gNe [DT rows, .fz (LT rows)] = some (.fz (.bl false), [DT rows, .fz (LT rows)]) := by rw [ne_DTL, decide_eq_true rfl]; rfl
  have c1 := bl_ok (bin_ok (a := .v (DT (srtT (highs rows)))) (b := .v (DT (srtT (highs rows)))) pG pH (ss := [DT (srtT (highs rows)), DT (srtT (highs rows))]) (e3 := [s, some (Dr L2), t, some (.fz (.int m)), some (.fz (LT rows)), some (DT rows), some (DT (highs rows)), some (DT (lows rows)), x8, x9, x10, x11, x12, none, none, none]) rfl nG rfl)
  have c2 := bl_ok (bin_ok (a := .v (DT (srtT (lows rows)))) (b := .v (DT (srtT (lows rows)))) pL pW (ss := [DT (srtT (lows rows)), DT (srtT (lows rows))]) (e3 := [s, some (Dr L2), t, some (.fz (.int m)), some (.fz (LT rows)), some (DT rows), some (DT (highs rows)), some (DT (lows rows)), x8, x9, x10, x11, x12, none, none, none]) rfl nL rfl)
  have c3 : tBl (eBin gNe (eRef 5) (eRef 4)) [s, some (Dr L2), t, some (.fz (.int m)), some (.fz (LT rows)), some (DT rows), some (DT (highs rows)), some (DT (lows rows)), x8, x9, x10, x11, x12, none, none, none] = .ok (false, [s, some (Dr L2), t, some (.fz (.int m)), some (.fz (LT rows)), some (DT rows), some (DT (highs rows)), some (DT (lows rows)), x8, x9, x10, x11, x12, none, none, none]) := bl_ok (bin_ok (a := .r 5) (b := .r 4) (e1 := [s, some (Dr L2), t, some (.fz (.int m)), some (.fz (LT rows)), some (DT rows), some (DT (highs rows)), some (DT (lows rows)), x8, x9, x10, x11, x12, none, none, none]) (e2 := [s, some (Dr L2), t, some (.fz (.int m)), some (.fz (LT rows)), some (DT rows), some (DT (highs rows)), some (DT (lows rows)), x8, x9, x10, x11, x12, none, none, none]) rfl rfl rfl nR rfl)
  have s6 := fun (a : Stx) => if_f (a := a) (b := sNext) (or_ff c1 (or_ff c2 c3))
  -- two tuples
  have s7 : sUnp (gTp ((gNm 8) :: ((gNm 9) :: []))) (eTup (aCons (eFz (eOwn f__law_tuple (aCons (eRef 1) (aCons (eRef 3) aNil)))) (aCons (eFz (eOwn f__law_tuple (aCons (eRef 1) (aCons (eRef 3) aNil)))) aNil))) [s, some (Dr L2), t, some (.fz (.int m)), some (.fz (LT rows)), some (DT rows), some (DT (highs rows)), some (DT (lows rows)), x8, x9, x10, x11, x12, none, none, none] = .next [s, some (Dr L4), t, some (.fz (.int m)), some (.fz (LT rows)), some (DT rows), some (DT (highs rows)), some (DT (lows rows)), some (.fz (T fa)), some (.fz (T sa)), x10, x11, x12, none, none, none] := by
    have a1 : aCons (eFz (eOwn f__law_tuple (aCons (eRef 1) (aCons (eRef 3) aNil)))) (aCons (eFz (eOwn f__law_tuple (aCons (eRef 1) (aCons (eRef 3) aNil)))) aNil) [s, some (Dr L2), t, some (.fz (.int m)), some (.fz (LT rows)), some (DT rows), some (DT (highs rows)), some (DT (lows rows)), x8, x9, x10, x11, x12, none, none, none] = .ok ([.v (.fz (T fa)), .v (.fz (T sa))], [s, some (Dr L4), t, some (.fz (.int m)), some (.fz (LT rows)), some (DT rows), some (DT (highs rows)), some (DT (lows rows)), x8, x9, x10, x11, x12, none, none, none]) := cons_ok (own_tuple h5) (cons_ok (own_tuple h6) rfl)
    unfold sUnp eTup ofE
    rw [a1]
    rfl
  -- meet and the bodies, whatever second is
  have fin : ∀ (L' se : List Int), se.length ≤ 64 → ∃ y10 y11 y12, sSeq (sIf (tBl (eBin gNe (eOwn f_meet (aCons (eRef 8) (aCons (eRef 9) aNil))) (eCall gTuple (aCons (eLc (aOne (eRef 8)) (one elems) [15] (gNm 15) t_law_7 x_law_8) aNil)))) (sRet (eC (.bl false))) sNext)
      (sFor (aOne (eLst (aCons (eVar 8) (aCons (eVar 9) (aCons (eTup aNil) aNil))))) (one elems) [true, true, true, true, true, true, true, true, true, true, false, false, false, true, true, true] (gNm 10) l_law_11) [s, some (Dr L'), t, some (.fz (.int m)), some (.fz (LT rows)), some (DT rows), some (DT (highs rows)), some (DT (lows rows)), some (.fz (T fa)), some (.fz (T se)), x10, x11, x12, none, none, none] = .next [s, some (Dr L'), t, some (.fz (.int m)), some (.fz (LT rows)), some (DT rows), some (DT (highs rows)), some (DT (lows rows)), some (.fz (T fa)), some (.fz (T se)), y10, y11, y12, none, none, none] := fun L' se hse => by
    have a1 : eOwn f_meet (aCons (eRef 8) (aCons (eRef 9) aNil)) [s, some (Dr L'), t, some (.fz (.int m)), some (.fz (LT rows)), some (DT rows), some (DT (highs rows)), some (DT (lows rows)), some (.fz (T fa)), some (.fz (T se)), x10, x11, x12, none, none, none] = .ok (.v (.fz (T (meetL fa se))), [s, some (Dr L'), t, some (.fz (.int m)), some (.fz (LT rows)), some (DT rows), some (DT (highs rows)), some (DT (lows rows)), some (.fz (T fa)), some (.fz (T se)), x10, x11, x12, none, none, none]) := own_ok (as := [.r 8, .r 9]) (e1 := [s, some (Dr L'), t, some (.fz (.int m)), some (.fz (LT rows)), some (DT rows), some (DT (highs rows)), some (DT (lows rows)), some (.fz (T fa)), some (.fz (T se)), x10, x11, x12, none, none, none]) (e2 := [s, some (Dr L'), t, some (.fz (.int m)), some (.fz (LT rows)), some (DT rows), some (DT (highs rows)), some (DT (lows rows)), none, none, x10, x11, x12, none, none, none]) rfl rfl (meet_ok hfa.few)
    have a2 := meetC (t := t_law_7) (x := x_law_8) (own := [15]) (g := gNm 15) (e := [s, some (Dr L'), t, some (.fz (.int m)), some (.fz (LT rows)), some (DT rows), some (DT (highs rows)), some (DT (lows rows)), none, some (.fz (T se)), x10, x11, x12, none, none, none]) (a := fa) (b := se) fun n => ⟨_, rfl, bl_ok (bin_ok (a := .r 15) (b := .r 9) (e1 := [s, some (Dr L'), t, some (.fz (.int m)), some (.fz (LT rows)), some (DT rows), some (DT (highs rows)), some (DT (lows rows)), none, some (.fz (T se)), x10, x11, x12, none, none, some (.fz (.int n))]) (e2 := [s, some (Dr L'), t, some (.fz (.int m)), some (.fz (LT rows)), some (DT rows), some (DT (highs rows)), some (DT (lows rows)), none, some (.fz (T se)), x10, x11, x12, none, none, some (.fz (.int n))]) rfl rfl rfl (gIn_T n se) rfl), rfl, rfl⟩
    have hl : (meetL fa se).length ≤ 64 := Nat.le_trans (List.length_filter_le _ _) hfa.few
    have a3 : eLc (aOne (eRef 8)) (one elems) [15] (gNm 15) t_law_7 x_law_8 [s, some (Dr L'), t, some (.fz (.int m)), some (.fz (LT rows)), some (DT rows), some (DT (highs rows)), some (DT (lows rows)), some (.fz (T fa)), some (.fz (T se)), x10, x11, x12, none, none, none] = .ok (.v (Dr (meetL fa se)), [s, some (Dr L'), t, some (.fz (.int m)), some (.fz (LT rows)), some (DT rows), some (DT (highs rows)), some (DT (lows rows)), some (.fz (T fa)), some (.fz (T se)), x10, x11, x12, none, none, none]) := lc_ok (as := [.r 8]) (e1 := [s, some (Dr L'), t, some (.fz (.int m)), some (.fz (LT rows)), some (DT rows), some (DT (highs rows)), some (DT (lows rows)), some (.fz (T fa)), some (.fz (T se)), x10, x11, x12, none, none, none]) rfl rfl (one_T fa) a2 (by simp; omega)
    have a4 : eCall gTuple (aCons (eLc (aOne (eRef 8)) (one elems) [15] (gNm 15) t_law_7 x_law_8) aNil) [s, some (Dr L'), t, some (.fz (.int m)), some (.fz (LT rows)), some (DT rows), some (DT (highs rows)), some (DT (lows rows)), some (.fz (T fa)), some (.fz (T se)), x10, x11, x12, none, none, none] = .ok (.v (.fz (T (meetL fa se))), [s, some (Dr L'), t, some (.fz (.int m)), some (.fz (LT rows)), some (DT rows), some (DT (highs rows)), some (DT (lows rows)), some (.fz (T fa)), some (.fz (T se)), x10, x11, x12, none, none, none]) := call_ok (as := [.v (Dr (meetL fa se))]) (e1 := [s, some (Dr L'), t, some (.fz (.int m)), some (.fz (LT rows)), some (DT rows), some (DT (highs rows)), some (DT (lows rows)), some (.fz (T fa)), some (.fz (T se)), x10, x11, x12, none, none, none]) (cons_ok a3 rfl) rfl (tuple_Dr _) rfl
    have nM : gNe [.fz (T (meetL fa se)), .fz (T (meetL fa se))] = some (.fz (.bl false), [.fz (T (meetL fa se)), .fz (T (meetL fa se))]) := by rw [ne_TT, decide_eq_true rfl]; rfl
    have c4 := bl_ok (bin_ok (a := .v (.fz (T (meetL fa se)))) (b := .v (.fz (T (meetL fa se)))) a1 a4 (ss := [.fz (T (meetL fa se)), .fz (T (meetL fa se))]) (e3 := [s, some (Dr L'), t, some (.fz (.int m)), some (.fz (LT rows)), some (DT rows), some (DT (highs rows)), some (DT (lows rows)), some (.fz (T fa)), some (.fz (T se)), x10, x11, x12, none, none, none]) rfl nM rfl)
    have t1 := turn_body (s := s) (x1 := some (Dr L')) (t := t) (x3 := some (.fz (.int m))) (x6 := some (DT (highs rows))) (x7 := some (DT (lows rows))) (x8 := some (.fz (T fa))) (x9 := some (.fz (T se))) (rows := rows) (c := fa) (x11 := x11) (x12 := x12) hfa.few hz
    have t2 := turn_body (s := s) (x1 := some (Dr L')) (t := t) (x3 := some (.fz (.int m))) (x6 := some (DT (highs rows))) (x7 := some (DT (lows rows))) (x8 := some (.fz (T fa))) (x9 := some (.fz (T se))) (rows := rows) (c := se) (x11 := some (.fz (.bl (hits fa rows)))) (x12 := some (.fz (.bl (hits fa rows)))) hse hz
    have t3 := turn_body (s := s) (x1 := some (Dr L')) (t := t) (x3 := some (.fz (.int m))) (x6 := some (DT (highs rows))) (x7 := some (DT (lows rows))) (x8 := some (.fz (T fa))) (x9 := some (.fz (T se))) (rows := rows) (c := []) (x11 := some (.fz (.bl (hits se rows)))) (x12 := some (.fz (.bl (hits se rows)))) (by simp) hz
    have lp : forL (gNm 10) l_law_11 [T fa, T se, T []] [s, some (Dr L'), t, some (.fz (.int m)), some (.fz (LT rows)), some (DT rows), some (DT (highs rows)), some (DT (lows rows)), some (.fz (T fa)), some (.fz (T se)), x10, x11, x12, none, none, none] = .next [s, some (Dr L'), t, some (.fz (.int m)), some (.fz (LT rows)), some (DT rows), some (DT (highs rows)), some (DT (lows rows)), some (.fz (T fa)), some (.fz (T se)), some (.fz (T [])), some (.fz (.bl (hits [] rows))), some (.fz (.bl (hits [] rows))), none, none, none] := by
      rw [forL]
      show (match l_law_11 [s, some (Dr L'), t, some (.fz (.int m)), some (.fz (LT rows)), some (DT rows), some (DT (highs rows)), some (DT (lows rows)), some (.fz (T fa)), some (.fz (T se)), some (.fz (T fa)), x11, x12, none, none, none] with | .next e2 => _ | .cnt e2 => _ | .brk e2 => _ | .ret s e2 => _ | .exc x e2 => _ | .bad => _) = _
      rw [t1]
      show forL (gNm 10) l_law_11 [T se, T []] _ = _
      rw [forL]
      show (match l_law_11 [s, some (Dr L'), t, some (.fz (.int m)), some (.fz (LT rows)), some (DT rows), some (DT (highs rows)), some (DT (lows rows)), some (.fz (T fa)), some (.fz (T se)), some (.fz (T se)), some (.fz (.bl (hits fa rows))), some (.fz (.bl (hits fa rows))), none, none, none] with | .next e2 => _ | .cnt e2 => _ | .brk e2 => _ | .ret s e2 => _ | .exc x e2 => _ | .bad => _) = _
      rw [t2]
      show forL (gNm 10) l_law_11 [T []] _ = _
      rw [forL]
      show (match l_law_11 [s, some (Dr L'), t, some (.fz (.int m)), some (.fz (LT rows)), some (DT rows), some (DT (highs rows)), some (DT (lows rows)), some (.fz (T fa)), some (.fz (T se)), some (.fz (T [])), some (.fz (.bl (hits se rows))), some (.fz (.bl (hits se rows))), none, none, none] with | .next e2 => _ | .cnt e2 => _ | .brk e2 => _ | .ret s e2 => _ | .exc x e2 => _ | .bad => _) = _
      rw [t3]
      rfl
    refine ⟨some (.fz (T [])), some (.fz (.bl (hits [] rows))), some (.fz (.bl (hits [] rows))), (seq_next ((if_f c4).trans rfl)).trans ?_⟩
    exact for_next (as := [.v (.lst [.fz (T fa), .fz (T se), .fz (T [])])]) (e1 := [s, some (Dr L'), t, some (.fz (.int m)), some (.fz (LT rows)), some (DT rows), some (DT (highs rows)), some (DT (lows rows)), some (.fz (T fa)), some (.fz (T se)), x10, x11, x12, none, none, none]) rfl rfl (items := [T fa, T se, T []]) rfl rfl lp
  -- the second may be one of the rows
  have c5 : tBl (eBin gNe (eRef 4) (eLst aNil)) [s, some (Dr L4), t, some (.fz (.int m)), some (.fz (LT rows)), some (DT rows), some (DT (highs rows)), some (DT (lows rows)), some (.fz (T fa)), some (.fz (T sa)), x10, x11, x12, none, none, none] = .ok (!decide (rows = []), [s, some (Dr L4), t, some (.fz (.int m)), some (.fz (LT rows)), some (DT rows), some (DT (highs rows)), some (DT (lows rows)), some (.fz (T fa)), some (.fz (T sa)), x10, x11, x12, none, none, none]) := bl_ok (bin_ok (a := .r 4) (b := .v (.lst [])) (e1 := [s, some (Dr L4), t, some (.fz (.int m)), some (.fz (LT rows)), some (DT rows), some (DT (highs rows)), some (DT (lows rows)), some (.fz (T fa)), some (.fz (T sa)), x10, x11, x12, none, none, none]) (e2 := [s, some (Dr L4), t, some (.fz (.int m)), some (.fz (LT rows)), some (DT rows), some (DT (highs rows)), some (DT (lows rows)), some (.fz (T fa)), some (.fz (T sa)), x10, x11, x12, none, none, none]) rfl rfl rfl (ne_Lnil rows) rfl)
  have s8 : ∃ L' se, se.length ≤ 64 ∧ sIf (tBl (eBin gNe (eRef 4) (eLst aNil))) (sSet 9 (eBin gIx (eRef 4) (eOwn f__law_take (aCons (eRef 1) (aCons (eCall gLen (aCons (eRef 4) aNil)) aNil))))) sNext [s, some (Dr L4), t, some (.fz (.int m)), some (.fz (LT rows)), some (DT rows), some (DT (highs rows)), some (DT (lows rows)), some (.fz (T fa)), some (.fz (T sa)), x10, x11, x12, none, none, none] = .next [s, some (Dr L'), t, some (.fz (.int m)), some (.fz (LT rows)), some (DT rows), some (DT (highs rows)), some (DT (lows rows)), some (.fz (T fa)), some (.fz (T se)), x10, x11, x12, none, none, none] := by
    by_cases h0 : rows = []
    · rw [decide_eq_true h0] at c5
      exact ⟨L4, sa, hsa.few, (if_f c5).trans rfl⟩
    · rw [decide_eq_false h0] at c5
      have hpos : 0 < (rows.length : Int) := by
        have := List.length_pos_iff.mpr h0
        omega
      obtain ⟨r5, L5, h7, h8, h9⟩ := take_ex L4 rows.length hpos
      obtain ⟨se, hse, hix2⟩ := ix_LT h8 h9
      have a1 : eCall gLen (aCons (eRef 4) aNil) [s, some (Dr L4), t, some (.fz (.int m)), some (.fz (LT rows)), some (DT rows), some (DT (highs rows)), some (DT (lows rows)), some (.fz (T fa)), some (.fz (T sa)), x10, x11, x12, none, none, none] = .ok (.v (.fz (.int rows.length)), [s, some (Dr L4), t, some (.fz (.int m)), some (.fz (LT rows)), some (DT rows), some (DT (highs rows)), some (DT (lows rows)), some (.fz (T fa)), some (.fz (T sa)), x10, x11, x12, none, none, none]) := call_ok (as := [.r 4]) (e1 := [s, some (Dr L4), t, some (.fz (.int m)), some (.fz (LT rows)), some (DT rows), some (DT (highs rows)), some (DT (lows rows)), some (.fz (T fa)), some (.fz (T sa)), x10, x11, x12, none, none, none]) rfl rfl (len_LT rows) rfl
      refine ⟨L5, se, few se hse, (if_t c5).trans (set_next (e1 := [s, some (Dr L5), t, some (.fz (.int m)), some (.fz (LT rows)), some (DT rows), some (DT (highs rows)), some (DT (lows rows)), some (.fz (T fa)), some (.fz (T sa)), x10, x11, x12, none, none, none]) (bin_ok (a := .r 4) (e1 := [s, some (Dr L4), t, some (.fz (.int m)), some (.fz (LT rows)), some (DT rows), some (DT (highs rows)), some (DT (lows rows)), some (.fz (T fa)), some (.fz (T sa)), x10, x11, x12, none, none, none]) (e2 := [s, some (Dr L5), t, some (.fz (.int m)), some (.fz (LT rows)), some (DT rows), some (DT (highs rows)), some (DT (lows rows)), some (.fz (T fa)), some (.fz (T sa)), x10, x11, x12, none, none, none]) rfl (own_take1' a1 h7) rfl hix2 rfl) (by simp))⟩
  obtain ⟨L', se, hse, s8⟩ := s8
  obtain ⟨y10, y11, y12, s9⟩ := fin L' se hse
  exact ⟨L', _, _, _, _, _, _, _, y10, y11, y12, (seq_next s1).trans ((seq_next s2).trans ((seq_next s3).trans ((seq_next s4).trans ((seq_next s5).trans ((seq_next ((s6 _).trans rfl)).trans ((seq_next s7).trans ((seq_next s8).trans s9)))))))⟩
theorem law_true (ns : List Int) (h : ns.length ≤ 63) (hb : ∀ z ∈ ns, Builtin.Int.intBits z ≤ 1048576) : ∃ e, f_law [.fz (.lst (ns.map .int))] = .ok (.fz (.bl true), e) := by
  obtain ⟨L, _, h1, rfl⟩ := draws_ex ns h
  have e0 : ∀ x : Option Sv, True := fun _ => trivial
  obtain ⟨e2, h2, L', y2, y3, y4, y5, y6, y7, y8, y9, y10, y11, y12, rfl⟩ := forL_inv (g := gNm 2) (body := l_law_12) (ds := rangeD 0 3) (e := [some (.fz (.lst (ns.map .int))), some (Dr L), none, none, none, none, none, none, none, none, none, none, none, none, none, none]) (fun e => ∃ L' y2 y3 y4 y5 y6 y7 y8 y9 y10 y11 y12, e = [some (.fz (.lst (ns.map .int))), some (Dr L'), y2, y3, y4, y5, y6, y7, y8, y9, y10, y11, y12, none, none, none]) (fun d _ e he => by
    obtain ⟨L', y2, y3, y4, y5, y6, y7, y8, y9, y10, y11, y12, rfl⟩ := he
    obtain ⟨L2, z3, z4, z5, z6, z7, z8, z9, z10, z11, z12, h3⟩ := turn_law (s := some (.fz (.lst (ns.map .int)))) (t := some (.fz d)) (x3 := y3) (x4 := y4) (x5 := y5) (x6 := y6) (x7 := y7) (x8 := y8) (x9 := y9) (x10 := y10) (x11 := y11) (x12 := y12) L'
    exact ⟨_, rfl, _, h3, L2, _, _, _, _, _, _, _, _, _, _, _, rfl⟩) ⟨L, _, _, _, _, _, _, _, _, _, _, _, rfl⟩
  refine ⟨_, fn_ret (e := [some (.fz (.lst (ns.map .int))), none, none, none, none, none, none, none, none, none, none, none, none, none, none, none]) (e1 := [some (.fz (.lst (ns.map .int))), some (Dr L'), y2, y3, y4, y5, y6, y7, y8, y9, y10, y11, y12, none, none, none]) rfl rfl ?_⟩
  unfold b_law
  have s1 : sSet 1 (eOwn f__law_draws (aCons (eRef 0) aNil)) [some (.fz (.lst (ns.map .int))), none, none, none, none, none, none, none, none, none, none, none, none, none, none, none] = .next [some (.fz (.lst (ns.map .int))), some (Dr L), none, none, none, none, none, none, none, none, none, none, none, none, none, none] :=
    set_next (e1 := [some (.fz (.lst (ns.map .int))), none, none, none, none, none, none, none, none, none, none, none, none, none, none, none]) (own_ok (as := [.r 0]) (e1 := [some (.fz (.lst (ns.map .int))), none, none, none, none, none, none, none, none, none, none, none, none, none, none, none]) (e2 := [none, none, none, none, none, none, none, none, none, none, none, none, none, none, none, none]) rfl rfl h1) (by simp)
  refine (seq_next s1).trans ?_
  refine (seq_next (for_next (as := [.v (.fz (.int 3))]) (e1 := [some (.fz (.lst (ns.map .int))), some (Dr L), none, none, none, none, none, none, none, none, none, none, none, none, none, none]) rfl rfl (items := rangeD 0 3) (by simp only [gR1, small_of (i := 3) (by omega) (by omega), if_true]; rfl) rfl h2)).trans ?_
  rfl
end K94
set_option Elab.async false
set_option linter.all false
set_option maxRecDepth 100000
set_option maxHeartbeats 0
namespace K94
open PySem PySem.Spec PyProof.Rows L2 Fw
def d_mask_of : He.DefD := ⟨("mask_of", none), "mask_of", "mask_of", defArgs st_mask_of, defBody st_mask_of, defScope st_mask_of, [], []⟩
def d_body_of : He.DefD := ⟨("body_of", none), "body_of", "body_of", defArgs st_body_of, defBody st_body_of, defScope st_body_of, [], []⟩
def d_greatest_masks : He.DefD := ⟨("greatest_masks", none), "greatest_masks", "greatest_masks", defArgs st_greatest_masks, defBody st_greatest_masks, defScope st_greatest_masks, [], []⟩
def d_greatest : He.DefD := ⟨("greatest", none), "greatest", "greatest", defArgs st_greatest, defBody st_greatest, defScope st_greatest, [], []⟩
def d_meet : He.DefD := ⟨("meet", none), "meet", "meet", defArgs st_meet, defBody st_meet, defScope st_meet, [], []⟩
def d_least_masks : He.DefD := ⟨("least_masks", none), "least_masks", "least_masks", defArgs st_least_masks, defBody st_least_masks, defScope st_least_masks, [], []⟩
def d_least : He.DefD := ⟨("least", none), "least", "least", defArgs st_least, defBody st_least, defScope st_least, [], []⟩
def d_meets_all : He.DefD := ⟨("meets_all", none), "meets_all", "meets_all", defArgs st_meets_all, defBody st_meets_all, defScope st_meets_all, [], []⟩
def d__law_draws : He.DefD := ⟨("_law_draws", none), "_law_draws", "_law_draws", defArgs st__law_draws, defBody st__law_draws, defScope st__law_draws, [], []⟩
def d__law_take : He.DefD := ⟨("_law_take", none), "_law_take", "_law_take", defArgs st__law_take, defBody st__law_take, defScope st__law_take, [], []⟩
def d__law_tuple : He.DefD := ⟨("_law_tuple", none), "_law_tuple", "_law_tuple", defArgs st__law_tuple, defBody st__law_tuple, defScope st__law_tuple, [], []⟩
def d__law_sets : He.DefD := ⟨("_law_sets", none), "_law_sets", "_law_sets", defArgs st__law_sets, defBody st__law_sets, defScope st__law_sets, [], []⟩
def d__law_part : He.DefD := ⟨("_law_part", none), "_law_part", "_law_part", defArgs st__law_part, defBody st__law_part, defScope st__law_part, [], []⟩
def d_law : He.DefD := ⟨("law", none), "law", "law", defArgs st_law, defBody st_law, defScope st_law, [], []⟩
def fns : List He.DefD := [d_mask_of, d_body_of, d_greatest_masks, d_greatest, d_meet, d_least_masks, d_least, d_meets_all, d__law_draws, d__law_take, d__law_tuple, d__law_sets, d__law_part, d_law]
def fas : List He.Fa := [.glo "mask_of", .glo "body_of", .glo "greatest_masks", .glo "greatest", .glo "meet", .glo "least_masks", .glo "least", .glo "meets_all", .glo "_law_draws", .glo "_law_take", .glo "_law_tuple", .glo "_law_sets", .glo "_law_part", .glo "law", .free "abs", .free "all", .free "any", .free "bool", .free "int", .free "isinstance", .free "len", .free "list", .free "range", .free "reversed", .free "set", .free "sorted", .free "sum", .free "tuple"]
abbrev Rr : PySem.W.OpenRow := PySem.W.OpenLaw.row PySem.Challenge.rw_fewrules_k94_parts_and_meets_of_tuples
abbrev hk : PySem.W.Hook := He.hookD 4 fas fns
def ob (s : PySem.W.SharedT) : He.AlD := He.obsDG 4 fas fns (HandSHeadRun.getT s)
theorem ob_eq (s : PySem.W.SharedT) : ob s = hk.obs s.abs := He.obsDG_eq (HandSHeadRun.getT_eq s)
theorem run (w : World) : HandSHeadRun.RunEq Rr (PySem.W.view Rr.prog [16]) hk ob 4000 ["mask_of", "body_of", "greatest_masks", "greatest", "meet", "least_masks", "least", "meets_all", "_law_draws", "_law_take", "_law_tuple", "_law_sets", "_law_part"] w := by
  intro os
  kernel_rfl
theorem facts {P : Program} {w : World} {K : PySem.W.Frag} {h : Heap} {mg : Str → Option Value} {f : Addr} (X : K.In h) (G : h.Ns mainGlobals mg) (hfa : mg ("law" : Str) = some (.ref f)) (c : He.SaysD fas fns K) :
    ∃ fd : FuncData, (∀ (s : Shared) (v : Value), BindsTo s fd ⟨[v], []⟩ [("script", v)]) ∧ ∀ base : Heap, K.In base → base.Ns mainGlobals mg → FnOk P w K mg base (L2.CX P w) 4 f fd ["script"] (FSp ⟨P, w, K, fun _ => 0⟩ f_law) := by
  obtain ⟨fd_mask_of, F_mask_of⟩ := c.def_ 0 (d := d_mask_of) rfl
  obtain ⟨fd_body_of, F_body_of⟩ := c.def_ 1 (d := d_body_of) rfl
  obtain ⟨fd_greatest_masks, F_greatest_masks⟩ := c.def_ 2 (d := d_greatest_masks) rfl
  obtain ⟨fd_greatest, F_greatest⟩ := c.def_ 3 (d := d_greatest) rfl
  obtain ⟨fd_meet, F_meet⟩ := c.def_ 4 (d := d_meet) rfl
  obtain ⟨fd_least_masks, F_least_masks⟩ := c.def_ 5 (d := d_least_masks) rfl
  obtain ⟨fd_least, F_least⟩ := c.def_ 6 (d := d_least) rfl
  obtain ⟨fd_meets_all, F_meets_all⟩ := c.def_ 7 (d := d_meets_all) rfl
  obtain ⟨fd__law_draws, F__law_draws⟩ := c.def_ 8 (d := d__law_draws) rfl
  obtain ⟨fd__law_take, F__law_take⟩ := c.def_ 9 (d := d__law_take) rfl
  obtain ⟨fd__law_tuple, F__law_tuple⟩ := c.def_ 10 (d := d__law_tuple) rfl
  obtain ⟨fd__law_sets, F__law_sets⟩ := c.def_ 11 (d := d__law_sets) rfl
  obtain ⟨fd__law_part, F__law_part⟩ := c.def_ 12 (d := d__law_part) rfl
  obtain ⟨fd_law, F_law⟩ := c.def_ 13 (d := d_law) rfl
  have g_mask_of := He.glo_ok X G (c.fact 0 (f := .glo "mask_of") rfl)
  have g_body_of := He.glo_ok X G (c.fact 1 (f := .glo "body_of") rfl)
  have g_greatest_masks := He.glo_ok X G (c.fact 2 (f := .glo "greatest_masks") rfl)
  have g_greatest := He.glo_ok X G (c.fact 3 (f := .glo "greatest") rfl)
  have g_meet := He.glo_ok X G (c.fact 4 (f := .glo "meet") rfl)
  have g_least_masks := He.glo_ok X G (c.fact 5 (f := .glo "least_masks") rfl)
  have g_least := He.glo_ok X G (c.fact 6 (f := .glo "least") rfl)
  have g_meets_all := He.glo_ok X G (c.fact 7 (f := .glo "meets_all") rfl)
  have g__law_draws := He.glo_ok X G (c.fact 8 (f := .glo "_law_draws") rfl)
  have g__law_take := He.glo_ok X G (c.fact 9 (f := .glo "_law_take") rfl)
  have g__law_tuple := He.glo_ok X G (c.fact 10 (f := .glo "_law_tuple") rfl)
  have g__law_sets := He.glo_ok X G (c.fact 11 (f := .glo "_law_sets") rfl)
  have g__law_part := He.glo_ok X G (c.fact 12 (f := .glo "_law_part") rfl)
  have g_law := He.glo_ok X G (c.fact 13 (f := .glo "law") rfl)
  have m_abs := He.free_ok X G (c.fact 14 (f := .free "abs") rfl)
  have m_all := He.free_ok X G (c.fact 15 (f := .free "all") rfl)
  have m_any := He.free_ok X G (c.fact 16 (f := .free "any") rfl)
  have m_bool := He.free_ok X G (c.fact 17 (f := .free "bool") rfl)
  have m_int := He.free_ok X G (c.fact 18 (f := .free "int") rfl)
  have m_isinstance := He.free_ok X G (c.fact 19 (f := .free "isinstance") rfl)
  have m_len := He.free_ok X G (c.fact 20 (f := .free "len") rfl)
  have m_list := He.free_ok X G (c.fact 21 (f := .free "list") rfl)
  have m_range := He.free_ok X G (c.fact 22 (f := .free "range") rfl)
  have m_reversed := He.free_ok X G (c.fact 23 (f := .free "reversed") rfl)
  have m_set := He.free_ok X G (c.fact 24 (f := .free "set") rfl)
  have m_sorted := He.free_ok X G (c.fact 25 (f := .free "sorted") rfl)
  have m_sum := He.free_ok X G (c.fact 26 (f := .free "sum") rfl)
  have m_tuple := He.free_ok X G (c.fact 27 (f := .free "tuple") rfl)
  have e := hfa.symm.trans g_law
  cases e
  have b := FunD.bindsA (ps := ["script"]) F_law fun _ _ _ _ _ _ us hl => match us, hl with | [_], _ => rfl
  refine ⟨fd_law, fun s v => b s [v] rfl, fun base _ _ => ?_⟩
  have o_mask_of : OwnD P w K mg base (fun _ => 0) "mask_of" 1 f_mask_of := ok_mask_of F_mask_of m_sum  g_mask_of
  have o_body_of : OwnD P w K mg base (fun _ => 0) "body_of" 1 f_body_of := ok_body_of F_body_of m_tuple  g_body_of
  have o_greatest_masks : OwnD P w K mg base (fun _ => 0) "greatest_masks" 1 f_greatest_masks := ok_greatest_masks F_greatest_masks m_all m_sorted  g_greatest_masks
  have o_greatest : OwnD P w K mg base (fun _ => 0) "greatest" 2 f_greatest := ok_greatest F_greatest m_sorted o_body_of o_greatest_masks o_mask_of g_greatest
  have o_meet : OwnD P w K mg base (fun _ => 0) "meet" 1 f_meet := ok_meet F_meet m_tuple  g_meet
  have o_least_masks : OwnD P w K mg base (fun _ => 0) "least_masks" 1 f_least_masks := ok_least_masks F_least_masks m_all m_sorted  g_least_masks
  have o_least : OwnD P w K mg base (fun _ => 0) "least" 2 f_least := ok_least F_least m_sorted o_body_of o_least_masks o_mask_of g_least
  have o_meets_all : OwnD P w K mg base (fun _ => 0) "meets_all" 1 f_meets_all := ok_meets_all F_meets_all m_all m_any  g_meets_all
  have o__law_draws : OwnD P w K mg base (fun _ => 0) "_law_draws" 1 f__law_draws := ok__law_draws F__law_draws m_abs m_int m_len m_list m_range m_reversed  g__law_draws
  have o__law_take : OwnD P w K mg base (fun _ => 0) "_law_take" 1 f__law_take := ok__law_take F__law_take m_int m_len  g__law_take
  have o__law_tuple : OwnD P w K mg base (fun _ => 0) "_law_tuple" 2 f__law_tuple := ok__law_tuple F__law_tuple m_range m_set m_sorted m_tuple o__law_take g__law_tuple
  have o__law_sets : OwnD P w K mg base (fun _ => 0) "_law_sets" 3 f__law_sets := ok__law_sets F__law_sets m_len m_range m_tuple o__law_take o__law_tuple g__law_sets
  have o__law_part : OwnD P w K mg base (fun _ => 0) "_law_part" 1 f__law_part := ok__law_part F__law_part m_all  g__law_part
  exact fk_law F_law m_all m_any m_bool m_isinstance m_len m_list m_range m_sorted m_tuple o__law_draws o__law_part o__law_sets o__law_take o__law_tuple o_greatest o_least o_meet o_meets_all
end K94
set_option Elab.async false
set_option linter.all false
set_option maxRecDepth 100000
set_option maxHeartbeats 0
open PySem PySem.W PySem.Calls PyProof.Rows
theorem PySem.Challenge.cw_fewrules_k94_parts_and_meets_of_tuples_holds : PySem.Challenge.rw_fewrules_k94_parts_and_meets_of_tuples.Holds := by
  w_on; o_law
  refine HandSHeadRun.head_any (r := OpenLaw.row PySem.Challenge.rw_fewrules_k94_parts_and_meets_of_tuples) (q := view (OpenLaw.row PySem.Challenge.rw_fewrules_k94_parts_and_meets_of_tuples).prog [16]) (H := K94.hk) (ob := K94.ob) (M := 4000) (loose := ["mask_of", "body_of", "greatest_masks", "greatest", "meet", "least_masks", "least", "meets_all", "_law_draws", "_law_take", "_law_tuple", "_law_sets", "_law_part"]) (d := HandSHeadRun.topDef (OpenLaw.row PySem.Challenge.rw_fewrules_k94_parts_and_meets_of_tuples).prog 16) (kwd := []) K94.ob_eq
    (by kernel_rfl) (fun s => by kernel_rfl) K94.run (by kernel_rfl) (by kernel_rfl) (by kernel_rfl) (by rfl) (by first | assumption | decide +kernel) (by decide +kernel) ⟨rfl, rfl, rfl, rfl, rfl, by decide +kernel⟩ ?hw ?hc
  case hw => w_witness2
  case hc =>
    refine LamX.walk_ofTsE (l := PySem.Challenge.rw_fewrules_k94_parts_and_meets_of_tuples) (n := 63) (k := 4) (x := "script") (CX := L2.CX PySem.Challenge.pw_fewrules_k94_parts_and_meets_of_tuples) rfl (by decide) (by kernel_rfl) ⟨rfl, by decide, by decide⟩ ?F (fun _ _ _ _ _ h => Fw.cx_false h)
    intro w mg fa h Y G hmg0
    obtain ⟨K, KX, c⟩ := Y
    have hmg : mg ("law" : PySem.Str) = some (.ref fa) := by
      have e : (HandSHeadRun.topDef (OpenLaw.row PySem.Challenge.rw_fewrules_k94_parts_and_meets_of_tuples).prog 16).name = ("law" : PySem.Str) := by kernel_rfl
      rw [← e]
      exact hmg0
    obtain ⟨fd, hb, hF⟩ := K94.facts (P := (PySem.Challenge.rw_fewrules_k94_parts_and_meets_of_tuples).prog) (w := w) KX G hmg c
    exact ⟨K, KX, fd, [], Fw.FSp ⟨_, w, K, fun _ => 0⟩ K94.f_law, (by intro p hp; cases hp), (by intro p hp; cases hp), (by intro p hp; cases hp), hb, fun H a ns hl hbits _ hS => Fw.law_sp (K94.law_true ns hl hbits) hS, fun base h1 h2 _ => hF base h1 h2⟩
