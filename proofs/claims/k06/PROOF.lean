import PyProof.Rows.All
import Wide.All
import OpenK.AllK
import Wide.FinOn
import KE.KStateDown
import HandS.ForMost
import HandS.Deep
import HandS.Defaults
import HandS.More
import HandS.WordsExc
import HandS.Flow
import HandS.IsInst
import HandS.CallSlots
import HandS.TupAny
import HandS.WideBits
import HandS.SortInts
import HandS.Comp
import HandS.Iter
import HandS.Conv
import HandS.Text
import HandS.Strs
import KE.SortData
import HandS.SortKw
import HandS.Rev
import HandS.RevTup
import HandS.TupSets
import HandS.SetFor
import HandS.Head0
import HandS.Head1
import HandS.Head2
import HandS.HeadEnd
import HandS.HeadWalk
import HandS.HeadHook1
import HandS.HeadHook2
import KE.DataMinMax
import HandS.Style
import HandS.Replace
import PyProof.ListStr
import HandS.Codes
import PySem.Challenge.RW_fewrules_k06_words_names_and_atoms
set_option Elab.async false
set_option linter.all false
set_option maxRecDepth 100000
set_option maxHeartbeats 1000000
/-! Values without a heap: Dt (data that never changes), Sv (what a slot owns), and how a heap bears them. -/
namespace Fw
open PySem PySem.Spec PyProof.Rows L2

inductive Dt where
  | non | bl (b : Bool) | int (i : Int) | str (x : Str)
  | tup (ds : List Dt) | lst (ds : List Dt) | obj (c : Str) (ns : List Str) (ds : List Dt)

inductive Sv where
  | fz (d : Dt)
  | lst (ss : List Sv)
  | ins (c : Str) (ns : List Str) (ss : List Sv)

/-- what is fixed for a whole law: the program, the world, the written part, where each class stands -/
structure Gd where
  P : Program
  w : World
  K : PySem.W.Frag
  C : Str → Addr

abbrev Fp := Addr → Nat

section
variable (G : Gd)
mutual
def RpD (R : Hp) : Dt → V → Prop
  | .non, v => v = .non
  | .bl b, v => v = .bl b
  | .int i, v => v = .int i
  | .str x, v => v = .str x
  | .tup ds, v => ∃ a vs, v = .ref a ∧ SqT G.K R a vs ∧ RpDs R ds vs
  | .lst ds, v => ∃ a vs, v = .ref a ∧ SqL G.K R a vs ∧ RpDs R ds vs
  | .obj c ns ds, v => ∃ a dx vs, v = .ref a ∧ R a = some (.ins (G.C c) dx (ns.zip vs)) ∧ vs.length = ns.length ∧ RpDs R ds vs
def RpDs (R : Hp) : List Dt → List V → Prop
  | [], vs => vs = []
  | d :: ds, vs => ∃ v vr, vs = v :: vr ∧ RpD R d v ∧ RpDs R ds vr
end
mutual
def RpS (R H : Hp) : Sv → V → Fp → Prop
  | .fz d, v, f => RpD G R d v ∧ ∀ b, f b = 0
  | .lst ss, v, f => ∃ a vs g, v = .ref a ∧ H a = some (.lst vs) ∧ RpSs R H ss vs g ∧ ∀ b, f b = (if b = a then 1 else 0) + g b
  | .ins c ns ss, v, f => ∃ a dx vs g, v = .ref a ∧ H a = some (.ins (G.C c) dx (ns.zip vs)) ∧ vs.length = ns.length ∧ RpSs R H ss vs g ∧ ∀ b, f b = (if b = a then 1 else 0) + g b
def RpSs (R H : Hp) : List Sv → List V → Fp → Prop
  | [], vs, f => vs = [] ∧ ∀ b, f b = 0
  | s :: ss, vs, f => ∃ v vr g k, vs = v :: vr ∧ RpS R H s v g ∧ RpSs R H ss vr k ∧ ∀ b, f b = g b + k b
end
abbrev Env := List (Option Sv)
def EnvRp (R H : Hp) : Env → L2.St → Fp → Prop
  | [], σ, f => σ = [] ∧ ∀ b, f b = 0
  | none :: e, σ, f => ∃ x σr, σ = x :: σr ∧ EnvRp R H e σr f
  | some s :: e, σ, f => ∃ v σr g k, σ = some v :: σr ∧ RpS G R H s v g ∧ EnvRp R H e σr k ∧ ∀ b, f b = g b + k b
end

/-! ### wellformed, and how a state goes on -/
structure Wf (R H : Hp) (f : Fp) : Prop where
  sub : Same R H
  one : ∀ a, f a ≤ 1
  off : ∀ a, f a ≠ 0 → R a = none
  on : ∀ a, f a ≠ 0 → H a ≠ none
structure Tr (R H : Hp) (f : Fp) (R' H' : Hp) (f' : Fp) : Prop where
  rs : Same R R'
  keep : ∀ a o, H a = some o → f a = 0 → H' a = some o
  dom : ∀ a, H a ≠ none → H' a ≠ none
  new : ∀ a, f' a ≠ 0 → f a ≠ 0 ∨ H a = none
  newR : ∀ a, R' a ≠ none → R a ≠ none ∨ f a ≠ 0 ∨ H a = none

theorem Tr.refl {R H : Hp} {f : Fp} : Tr R H f R H f := ⟨fun _ _ h => h, fun _ _ h _ => h, fun _ h => h, fun _ h => .inl h, fun _ h => .inl h⟩
theorem Tr.trans {R H R1 H1 R2 H2 : Hp} {f f1 f2 : Fp} (x : Tr R H f R1 H1 f1) (y : Tr R1 H1 f1 R2 H2 f2) : Tr R H f R2 H2 f2 where
  rs := fun a o h => y.rs a o (x.rs a o h)
  keep := fun a o h z => y.keep a o (x.keep a o h z) (by
    by_cases q : f1 a = 0
    · exact q
    · rcases x.new a q with e | e
      · exact absurd z e
      · rw [e] at h; cases h)
  dom := fun a h => y.dom a (x.dom a h)
  new := fun a h => by
    rcases y.new a h with e | e
    · exact x.new a e
    · refine .inr ?_
      cases q : H a with
      | none => rfl
      | some o => exact absurd e (x.dom a (by rw [q]; exact fun z => nomatch z))
  newR := fun a h => by
    rcases y.newR a h with e | e | e
    · exact x.newR a e
    · exact .inr (x.new a e)
    · refine .inr (.inr ?_)
      cases q : H a with
      | none => rfl
      | some o => exact absurd e (x.dom a (by rw [q]; exact fun z => nomatch z))
/-- less may be owned behind -/
theorem Tr.less {R H R' H' : Hp} {f f' g : Fp} (x : Tr R H f R' H' f') (h : ∀ a, g a ≤ f' a) : Tr R H f R' H' g :=
  ⟨x.rs, x.keep, x.dom, fun a e => x.new a (by have := h a; omega), x.newR⟩
theorem Wf.less {R H : Hp} {f g : Fp} (x : Wf R H f) (h : ∀ a, g a ≤ f a) : Wf R H g :=
  ⟨x.sub, fun a => Nat.le_trans (h a) (x.one a), fun a e => x.off a (by have := h a; omega), fun a e => x.on a (by have := h a; omega)⟩
theorem Wf.same {R H : Hp} {f g : Fp} (x : Wf R H f) (h : ∀ a, g a = f a) : Wf R H g := x.less fun a => Nat.le_of_eq (h a)
/-- what is owned by others stays -/
theorem Wf.frame {R H R' H' : Hp} {f f' g : Fp} (w : Wf R H fun a => g a + f a) (w' : Wf R' H' f') (t : Tr R H f R' H' f') : Wf R' H' (fun a => g a + f' a) where
  sub := w'.sub
  one := fun a => by
    have h1 : g a + f a ≤ 1 := w.one a
    have h2 := w'.one a
    show g a + f' a ≤ 1
    by_cases hg : g a = 0
    · omega
    · by_cases hf : f' a = 0
      · omega
      · rcases t.new a hf with e | e
        · omega
        · exact absurd e (w.on a (by show g a + f a ≠ 0; omega))
  off := fun a h => by
    have h : g a + f' a ≠ 0 := h
    by_cases hf : f' a = 0
    · have hg : g a ≠ 0 := by omega
      have h1 : g a + f a ≤ 1 := w.one a
      cases q : R' a with
      | none => rfl
      | some o =>
        rcases t.newR a (by rw [q]; exact fun z => nomatch z) with e | e | e
        · exact absurd (w.off a (by show g a + f a ≠ 0; omega)) e
        · omega
        · exact absurd e (w.on a (by show g a + f a ≠ 0; omega))
    · exact w'.off a hf
  on := fun a h => by
    have h : g a + f' a ≠ 0 := h
    by_cases hf : f' a = 0
    · have hg : g a ≠ 0 := by omega
      exact t.dom a (w.on a (by show g a + f a ≠ 0; omega))
    · exact w'.on a hf
theorem Tr.frame {R H R' H' : Hp} {f f' g : Fp} (t : Tr R H f R' H' f') : Tr R H (fun a => g a + f a) R' H' (fun a => g a + f' a) where
  rs := t.rs
  keep := fun a o h z => t.keep a o h (by have z : g a + f a = 0 := z; omega)
  dom := t.dom
  new := fun a h => by
    have h : g a + f' a ≠ 0 := h
    by_cases hg : g a = 0
    · rcases t.new a (by omega) with e | e
      · exact .inl (by show g a + f a ≠ 0; omega)
      · exact .inr e
    · exact .inl (by show g a + f a ≠ 0; omega)
  newR := fun a h => by
    rcases t.newR a h with e | e | e
    · exact .inl e
    · exact .inr (.inl (by show g a + f a ≠ 0; omega))
    · exact .inr (.inr e)

/-! ### the heap goes on, the values stand -/
section
variable {G : Gd}
theorem sqT_mono {K : PySem.W.Frag} {R R' : Hp} {a : Addr} {xs : List V} (e : Same R R') (h : SqT K R a xs) : SqT K R' a xs := by
  rcases h with (h | ⟨o, h⟩) | h
  · exact .inl (.inl (e _ _ h))
  · exact .inl (.inr ⟨o, e _ _ h⟩)
  · exact .inr h
mutual
theorem RpD.mono {R R' : Hp} (e : Same R R') : ∀ {d : Dt} {v : V}, RpD G R d v → RpD G R' d v
  | .non, _, h => h
  | .bl _, _, h => h
  | .int _, _, h => h
  | .str _, _, h => h
  | .tup _, _, ⟨a, vs, q, h, r⟩ => ⟨a, vs, q, sqT_mono e h, RpDs.mono e r⟩
  | .lst _, _, ⟨a, vs, q, h, r⟩ => ⟨a, vs, q, e.seq h, RpDs.mono e r⟩
  | .obj _ _ _, _, ⟨a, dx, vs, q, h, l, r⟩ => ⟨a, dx, vs, q, e _ _ h, l, RpDs.mono e r⟩
theorem RpDs.mono {R R' : Hp} (e : Same R R') : ∀ {ds : List Dt} {vs : List V}, RpDs G R ds vs → RpDs G R' ds vs
  | [], _, h => h
  | _ :: _, _, ⟨v, vr, q, h, r⟩ => ⟨v, vr, q, RpD.mono e h, RpDs.mono e r⟩
end
mutual
theorem RpS.mono {R H R' H' : Hp} (e : Same R R') : ∀ {s : Sv} {v : V} {f : Fp}, (∀ a o, f a ≠ 0 → H a = some o → H' a = some o) → RpS G R H s v f → RpS G R' H' s v f
  | .fz _, _, _, _, ⟨h, z⟩ => ⟨RpD.mono e h, z⟩
  | .lst _, _, f, k, ⟨a, vs, g, q, h, r, z⟩ => ⟨a, vs, g, q, k a _ (by rw [z, if_pos rfl]; omega) h, RpSs.mono e (fun b o hb => k b o (by rw [z]; omega)) r, z⟩
  | .ins _ _ _, _, f, k, ⟨a, dx, vs, g, q, h, l, r, z⟩ => ⟨a, dx, vs, g, q, k a _ (by rw [z, if_pos rfl]; omega) h, l, RpSs.mono e (fun b o hb => k b o (by rw [z]; omega)) r, z⟩
theorem RpSs.mono {R H R' H' : Hp} (e : Same R R') : ∀ {ss : List Sv} {vs : List V} {f : Fp}, (∀ a o, f a ≠ 0 → H a = some o → H' a = some o) → RpSs G R H ss vs f → RpSs G R' H' ss vs f
  | [], _, _, _, h => h
  | _ :: _, _, f, k, ⟨v, vr, g, l, q, h, r, z⟩ => ⟨v, vr, g, l, q, RpS.mono e (fun b o hb => k b o (by rw [z]; omega)) h, RpSs.mono e (fun b o hb => k b o (by rw [z]; omega)) r, z⟩
end
theorem EnvRp.mono {R H R' H' : Hp} (e : Same R R') : ∀ {env : Env} {σ : L2.St} {f : Fp}, (∀ a o, f a ≠ 0 → H a = some o → H' a = some o) → EnvRp G R H env σ f → EnvRp G R' H' env σ f
  | [], _, _, _, h => h
  | none :: _, _, _, k, ⟨x, σr, q, r⟩ => ⟨x, σr, q, EnvRp.mono e k r⟩
  | some _ :: _, _, f, k, ⟨v, σr, g, l, q, h, r, z⟩ => ⟨v, σr, g, l, q, RpS.mono e (fun b o hb => k b o (by rw [z]; omega)) h, EnvRp.mono e (fun b o hb => k b o (by rw [z]; omega)) r, z⟩
mutual
theorem RpS.eq {R H : Hp} : ∀ {s : Sv} {v : V} {f g : Fp}, (∀ a, g a = f a) → RpS G R H s v f → RpS G R H s v g
  | .fz _, _, _, _, e, ⟨h, z⟩ => ⟨h, fun b => (e b).trans (z b)⟩
  | .lst _, _, _, _, e, ⟨a, vs, g, q, h, r, z⟩ => ⟨a, vs, g, q, h, r, fun b => (e b).trans (z b)⟩
  | .ins _ _ _, _, _, _, e, ⟨a, dx, vs, g, q, h, l, r, z⟩ => ⟨a, dx, vs, g, q, h, l, r, fun b => (e b).trans (z b)⟩
end
theorem RpSs.eq {R H : Hp} : ∀ {s : List Sv} {v : List V} {f g : Fp}, (∀ a, g a = f a) → RpSs G R H s v f → RpSs G R H s v g
  | [], _, _, _, e, ⟨h, z⟩ => ⟨h, fun b => (e b).trans (z b)⟩
  | _ :: _, _, _, _, e, ⟨v, vr, g, k, q, h, r, z⟩ => ⟨v, vr, g, k, q, h, r, fun b => (e b).trans (z b)⟩
theorem EnvRp.eq {R H : Hp} : ∀ {env : Env} {σ : L2.St} {f g : Fp}, (∀ a, g a = f a) → EnvRp G R H env σ f → EnvRp G R H env σ g
  | [], _, _, _, e, ⟨h, z⟩ => ⟨h, fun b => (e b).trans (z b)⟩
  | none :: _, _, _, _, e, ⟨x, σr, q, r⟩ => ⟨x, σr, q, EnvRp.eq e r⟩
  | some _ :: _, _, _, _, e, ⟨v, σr, g, k, q, h, r, z⟩ => ⟨v, σr, g, k, q, h, r, fun b => (e b).trans (z b)⟩
theorem EnvRp.len {R H : Hp} : ∀ {env : Env} {σ : L2.St} {f : Fp}, EnvRp G R H env σ f → env.length = σ.length
  | [], _, _, ⟨h, _⟩ => by rw [h]; rfl
  | none :: _, _, _, ⟨x, σr, q, r⟩ => by rw [q, List.length_cons, List.length_cons, EnvRp.len r]
  | some _ :: _, _, _, ⟨v, σr, g, k, q, h, r, z⟩ => by rw [q, List.length_cons, List.length_cons, EnvRp.len r]
/-- a slot taken out -/
theorem EnvRp.take {R H : Hp} : ∀ {env : Env} {σ : L2.St} {f : Fp} {i : Nat} {s : Sv}, env[i]? = some (some s) → EnvRp G R H env σ f →
    ∃ v g k, σ[i]? = some (some v) ∧ RpS G R H s v g ∧ EnvRp G R H (env.set i none) σ k ∧ ∀ b, f b = g b + k b
  | [], _, _, _, _, e, _ => by simp at e
  | none :: _, _, _, 0, _, e, _ => by simp at e
  | some _ :: _, _, _, 0, _, e, ⟨v, σr, g, k, q, h, r, z⟩ => by
    have e' := Option.some.inj (Option.some.inj e)
    subst e'
    exact ⟨v, g, k, by rw [q]; rfl, h, ⟨some v, σr, q, r⟩, z⟩
  | none :: env, _, f, i + 1, _, e, ⟨x, σr, q, r⟩ => by
    obtain ⟨v, g, k, h1, h2, h3, h4⟩ := EnvRp.take (i := i) (by simpa using e) r
    exact ⟨v, g, k, by rw [q]; simpa using h1, h2, ⟨x, σr, q, h3⟩, h4⟩
  | some _ :: env, _, f, i + 1, _, e, ⟨x, σr, g0, k0, q, h, r, z⟩ => by
    subst q
    obtain ⟨v, g, k, h1, h2, h3, h4⟩ := EnvRp.take (i := i) (by simpa using e) r
    refine ⟨v, g, fun b => g0 b + k b, by simpa using h1, h2, ⟨x, _, g0, k, rfl, h, h3, fun _ => rfl⟩, fun b => ?_⟩
    have := h4 b
    show f b = g b + (g0 b + k b)
    rw [z, h4]
    omega
/-- a slot filled -/
theorem EnvRp.put {R H : Hp} {s : Sv} {v : V} {g : Fp} (hs : RpS G R H s v g) : ∀ {env : Env} {σ : L2.St} {f : Fp} {i : Nat}, i < env.length → EnvRp G R H env σ f →
    ∃ k : Fp, EnvRp G R H (env.set i (some s)) (σ.set i (some v)) (fun b => g b + k b) ∧ ∀ b, k b ≤ f b
  | [], _, _, _, e, _ => by simp at e
  | none :: _, _, f, 0, _, ⟨x, σr, q, r⟩ => by
    subst q
    exact ⟨f, ⟨v, σr, g, f, rfl, hs, r, fun _ => rfl⟩, fun b => Nat.le_refl _⟩
  | some _ :: _, _, f, 0, _, ⟨x, σr, g0, k0, q, h, r, z⟩ => by
    subst q
    exact ⟨k0, ⟨v, σr, g, k0, rfl, hs, r, fun _ => rfl⟩, fun b => by rw [z]; omega⟩
  | none :: env, _, f, i + 1, e, ⟨x, σr, q, r⟩ => by
    subst q
    obtain ⟨k, h1, h2⟩ := EnvRp.put hs (i := i) (by simpa using e) r
    exact ⟨k, ⟨x, _, rfl, h1⟩, h2⟩
  | some _ :: env, _, f, i + 1, e, ⟨x, σr, g0, k0, q, h, r, z⟩ => by
    subst q
    obtain ⟨k, h1, h2⟩ := EnvRp.put hs (i := i) (by simpa using e) r
    refine ⟨fun b => g0 b + k b, ⟨x, _, g0, _, rfl, h, h1, fun b => ?_⟩, fun b => ?_⟩
    · show g b + (g0 b + k b) = g0 b + (g b + k b)
      omega
    · have := h2 b
      show g0 b + k b ≤ f b
      rw [z]
      omega
/-- put back where it was: the slots' values as they stand -/
theorem EnvRp.back {R H : Hp} {s : Sv} {v : V} {g : Fp} (hs : RpS G R H s v g) {env : Env} {σ : L2.St} {f : Fp} {i : Nat} (hv : σ[i]? = some (some v)) (r : EnvRp G R H env σ f) :
    ∃ k : Fp, EnvRp G R H (env.set i (some s)) σ (fun b => g b + k b) ∧ ∀ b, k b ≤ f b := by
  have hi : i < σ.length := (List.getElem?_eq_some_iff.mp hv).1
  obtain ⟨k, h1, h2⟩ := EnvRp.put hs (i := i) (by rw [r.len]; exact hi) r
  rw [show σ.set i (some v) = σ from by
    apply List.ext_getElem?
    intro j
    by_cases e : i = j
    · subst e; rw [List.getElem?_set_self hi, hv]
    · rw [List.getElem?_set_ne e]] at h1
  exact ⟨k, h1, h2⟩
end
end Fw
set_option Elab.async false
set_option linter.all false
set_option maxRecDepth 100000
set_option maxHeartbeats 1000000
/-! The state of a body: what is owned by temporaries and slots; expressions that give values without a heap. -/
namespace Fw
open PySem PySem.Spec PyProof.Rows L2

mutual
@[simp] def Sv.frz : Sv → Dt
  | .fz d => d
  | .lst ss => .lst (frzs ss)
  | .ins c ns ss => .obj c ns (frzs ss)
@[simp] def frzs : List Sv → List Dt
  | [] => []
  | s :: ss => s.frz :: frzs ss
end
/-- an exception: its class, its fields -/
structure Xn where
  c : Str
  ns : List Str
  ds : List Dt
inductive Arg where
  | v (s : Sv)
  | r (i : Nat)
inductive Res (α : Type) where
  | ok (a : α)
  | exc (x : Xn) (e : Env)
  | bad
@[simp] def Res.bind {α β : Type} : Res α → (α → Res β) → Res β
  | .ok a, f => f a
  | .exc x e, _ => .exc x e
  | .bad, _ => .bad
instance : Monad Res where
  pure := Res.ok
  bind := Res.bind
abbrev Ex := Env → Res (Arg × Env)

/-- where a piece of code began -/
structure Zn where
  R : Hp
  H : Hp
  f : Fp
  pin : Nat → Option V
structure Cfg (G : Gd) (Z : Zn) (R H : Hp) (ts : List Sv) (vs : List V) (env : Env) (σ : L2.St) : Prop where
  ex : ∃ ft fe : Fp, RpSs G R H ts vs ft ∧ EnvRp G R H env σ fe ∧ Wf R H (fun b => ft b + fe b) ∧ Tr Z.R Z.H Z.f R H (fun b => ft b + fe b)
  pin : ∀ j v, Z.pin j = some v → σ[j]? = some (some v)

section
variable {G : Gd} {Z : Zn} {R H : Hp} {ts : List Sv} {vs : List V} {env : Env} {σ : L2.St}
theorem Cfg.wf (c : Cfg G Z R H ts vs env σ) : Same R H := let ⟨_, _, _, _, w, _⟩ := c.ex; w.sub
theorem Cfg.len (c : Cfg G Z R H ts vs env σ) : env.length = σ.length := let ⟨_, _, _, e, _⟩ := c.ex; e.len
/-- the temporaries in another order, or fewer -/
theorem Cfg.reord {ts' : List Sv} {vs' : List V} (c : Cfg G Z R H ts vs env σ) (h : ∀ g : Fp, RpSs G R H ts vs g → ∃ g' : Fp, RpSs G R H ts' vs' g' ∧ ∀ b, g' b ≤ g b) : Cfg G Z R H ts' vs' env σ := by
  obtain ⟨⟨ft, fe, h1, h2, w, t⟩, p⟩ := c
  obtain ⟨g', h3, h4⟩ := h ft h1
  have le : ∀ b, g' b + fe b ≤ ft b + fe b := fun b => by have := h4 b; omega
  exact ⟨⟨g', fe, h3, h2, w.less le, t.less le⟩, p⟩
theorem Cfg.pop {s : Sv} {v : V} (c : Cfg G Z R H (s :: ts) (v :: vs) env σ) : Cfg G Z R H ts vs env σ := c.reord fun g h => by
  obtain ⟨v', vr, g1, k, e, _, h2, z⟩ := h
  cases e
  exact ⟨k, h2, fun b => by rw [z]; omega⟩
theorem Cfg.pop2 {s s' : Sv} {v v' : V} (c : Cfg G Z R H (s :: s' :: ts) (v :: v' :: vs) env σ) : Cfg G Z R H ts vs env σ := c.pop.pop
theorem Cfg.topS {s : Sv} {v : V} (c : Cfg G Z R H (s :: ts) (v :: vs) env σ) : ∃ f, RpS G R H s v f := by
  obtain ⟨_, _, ⟨v', vr, g1, k, e, h1, _, _⟩, _⟩ := c.ex
  cases e
  exact ⟨g1, h1⟩
theorem Cfg.top {d : Dt} {v : V} (c : Cfg G Z R H (.fz d :: ts) (v :: vs) env σ) : RpD G R d v := let ⟨_, h⟩ := c.topS; h.1
theorem Cfg.top2 {s : Sv} {v' : V} {d : Dt} {v : V} (c : Cfg G Z R H (s :: .fz d :: ts) (v' :: v :: vs) env σ) : RpD G R d v := c.pop.top
theorem Cfg.push {d : Dt} {v : V} (c : Cfg G Z R H ts vs env σ) (h : RpD G R d v) : Cfg G Z R H (.fz d :: ts) (v :: vs) env σ := c.reord fun g r =>
  ⟨g, ⟨v, vs, fun _ => 0, g, rfl, ⟨h, fun _ => rfl⟩, r, fun b => (Nat.zero_add _).symm⟩, fun _ => Nat.le_refl _⟩
theorem Cfg.free0 {p : Addr} (c : Cfg G Z R H ts vs env σ) (hp : H p = none) : R p = none ∧ Z.H p = none := by
  obtain ⟨_, _, _, _, w, t⟩ := c.ex
  refine ⟨w.sub.free hp, ?_⟩
  cases q : Z.H p with
  | none => rfl
  | some o => exact absurd hp (t.dom p (by rw [q]; exact fun z => nomatch z))
/-- a new frozen object -/
theorem Cfg.grow {p : Addr} (o : HO) (c : Cfg G Z R H ts vs env σ) (hp : H p = none) : Cfg G Z (upd R p o) (upd H p o) ts vs env σ ∧ Same R (upd R p o) := by
  obtain ⟨rp, zp⟩ := c.free0 hp
  obtain ⟨⟨ft, fe, h1, h2, w, t⟩, pn⟩ := c
  have sR : Same R (upd R p o) := fun b u e => by rw [upd_ne (ne_of_none e rp)]; exact e
  have sH : Same H (upd H p o) := fun b u e => by rw [upd_ne (ne_of_none e hp)]; exact e
  have np : ∀ a, ft a + fe a ≠ 0 → a ≠ p := fun a h z => by subst z; exact w.on a h hp
  refine ⟨⟨⟨ft, fe, h1.mono sR fun a u _ e => sH a u e, h2.mono sR fun a u _ e => sH a u e, ⟨fun b u e => ?_, w.one, fun a h => ?_, fun a h => ?_⟩, ⟨fun a u e => sR a u (t.rs a u e), fun a u e z => sH a u (t.keep a u e z), fun a h => ?_, t.new, fun a h => ?_⟩⟩, pn⟩, sR⟩
  · by_cases hb : b = p
    · subst hb; rw [upd_same] at e ⊢; exact e
    · rw [upd_ne hb] at e ⊢; exact w.sub b u e
  · rw [upd_ne (np a h)]; exact w.off a h
  · rw [upd_ne (np a h)]; exact w.on a h
  · have := t.dom a h
    by_cases hb : a = p
    · subst hb; rw [upd_same]; exact fun z => nomatch z
    · rw [upd_ne hb]; exact this
  · by_cases hb : a = p
    · subst hb; exact .inr (.inr zp)
    · rw [upd_ne hb] at h; exact t.newR a h
theorem RpSs.split {R H : Hp} : ∀ {ss ts : List Sv} {ws : List V} {g : Fp}, RpSs G R H (ss ++ ts) ws g → ∃ w1 w2 g1 g2, ws = w1 ++ w2 ∧ RpSs G R H ss w1 g1 ∧ RpSs G R H ts w2 g2 ∧ ∀ b, g b = g1 b + g2 b
  | [], ts, ws, g, h => ⟨[], ws, fun _ => 0, g, rfl, ⟨rfl, fun _ => rfl⟩, h, fun b => (Nat.zero_add _).symm⟩
  | s :: ss, ts, ws, g, ⟨v, vr, g0, k, e, h, r, z⟩ => by
    obtain ⟨w1, w2, g1, g2, e2, h1, h2, z2⟩ := RpSs.split r
    refine ⟨v :: w1, w2, fun b => g0 b + g1 b, g2, by rw [e, e2]; rfl, ⟨v, w1, g0, g1, rfl, h, h1, fun _ => rfl⟩, h2, fun b => ?_⟩
    have := z2 b
    rw [z]
    show g0 b + k b = g0 b + g1 b + g2 b
    omega
theorem RpSs.len {R H : Hp} : ∀ {ss : List Sv} {ws : List V} {g : Fp}, RpSs G R H ss ws g → ss.length = ws.length
  | [], _, _, ⟨e, _⟩ => by rw [e]; rfl
  | _ :: _, _, _, ⟨v, vr, g0, k, e, h, r, z⟩ => by rw [e, List.length_cons, List.length_cons, RpSs.len r]
theorem RpSs.join {R H : Hp} {ts : List Sv} {w2 : List V} {g2 : Fp} (h2 : RpSs G R H ts w2 g2) : ∀ {ss : List Sv} {w1 : List V} {g1 : Fp}, RpSs G R H ss w1 g1 → RpSs G R H (ss ++ ts) (w1 ++ w2) (fun b => g1 b + g2 b)
  | [], _, _, ⟨e, z⟩ => by
    subst e
    exact h2.eq fun b => by show _ + _ = _; rw [z]; omega
  | s :: ss, _, _, ⟨v, vr, g0, k, e, h, r, z⟩ => by
    subst e
    refine ⟨v, vr ++ w2, g0, fun b => k b + g2 b, rfl, h, RpSs.join h2 r, fun b => ?_⟩
    have := z b
    show _ + g2 b = g0 b + (k b + g2 b)
    omega
/-- with values of known lengths -/
theorem RpSs.split' {R H : Hp} {ss ts : List Sv} {w1 w2 : List V} {g : Fp} (hl : ss.length = w1.length) (h : RpSs G R H (ss ++ ts) (w1 ++ w2) g) : ∃ g1 g2, RpSs G R H ss w1 g1 ∧ RpSs G R H ts w2 g2 ∧ ∀ b, g b = g1 b + g2 b := by
  obtain ⟨x1, x2, g1, g2, e, h1, h2, z⟩ := h.split
  obtain ⟨e1, e2⟩ := List.append_inj e (by rw [← hl]; exact h1.len)
  subst e1 e2
  exact ⟨g1, g2, h1, h2, z⟩
/-- a new list of one's own -/
theorem Cfg.newLst {p : Addr} {ss : List Sv} {ws : List V} (hl : ss.length = ws.length) (c : Cfg G Z R H (ss ++ ts) (ws ++ vs) env σ) (hp : H p = none) : Cfg G Z R (upd H p (.lst ws)) (.lst ss :: ts) (.ref p :: vs) env σ := by
  obtain ⟨rp, zp⟩ := c.free0 hp
  obtain ⟨⟨ft, fe, h1, h2, w, t⟩, pn⟩ := c
  obtain ⟨g1, g2, h3, h4, z⟩ := RpSs.split' hl h1
  have sH : Same H (upd H p (.lst ws)) := fun b u e => by rw [upd_ne (ne_of_none e hp)]; exact e
  have np : ft p + fe p = 0 := by
    by_cases q : ft p + fe p = 0
    · exact q
    · exact absurd hp (w.on p q)
  have one : ∀ b, (if b = p then 1 else 0) + g1 b + g2 b + fe b ≤ 1 := fun b => by
    have : ft b + fe b ≤ 1 := w.one b
    have zb := z b
    by_cases e : b = p
    · subst e; rw [if_pos rfl]; omega
    · rw [if_neg e]; omega
  refine ⟨⟨fun b => (if b = p then 1 else 0) + g1 b + g2 b, fe, ⟨.ref p, vs, fun b => (if b = p then 1 else 0) + g1 b, g2, rfl, ⟨p, ws, g1, rfl, upd_same, h3.mono (Same.refl R) fun a u _ e => sH a u e, fun _ => rfl⟩, h4.mono (Same.refl R) fun a u _ e => sH a u e, fun _ => rfl⟩, h2.mono (Same.refl R) fun a u _ e => sH a u e,
    ⟨fun b u e => sH b u (w.sub b u e), one, fun a h => ?_, fun a h => ?_⟩, ⟨t.rs, fun a u e z => sH a u (t.keep a u e z), fun a h => ?_, fun a h => ?_, t.newR⟩⟩, pn⟩
  · by_cases e : a = p
    · subst e; exact rp
    · exact w.off a (by have := z a; simp only [if_neg e] at h; show ft a + fe a ≠ 0; omega)
  · by_cases e : a = p
    · subst e; rw [upd_same]; exact fun z => nomatch z
    · rw [upd_ne e]; exact w.on a (by have := z a; simp only [if_neg e] at h; show ft a + fe a ≠ 0; omega)
  · have := t.dom a h
    by_cases e : a = p
    · subst e; rw [upd_same]; exact fun z => nomatch z
    · rw [upd_ne e]; exact this
  · by_cases e : a = p
    · subst e; exact .inr zp
    · exact t.new a (by have := z a; simp only [if_neg e] at h; show ft a + fe a ≠ 0; omega)
mutual
theorem RpS.frz {R H R' : Hp} (e : Same R R') : ∀ {s : Sv} {v : V} {f : Fp}, (∀ a, f a ≠ 0 → R' a = H a) → RpS G R H s v f → RpD G R' s.frz v
  | .fz _, _, _, _, ⟨h, _⟩ => h.mono e
  | .lst _, _, f, k, ⟨a, vs, g, q, h, r, z⟩ => ⟨a, vs, q, .inl (.inl ((k a (by rw [z, if_pos rfl]; omega)).trans h)), RpSs.frz e (fun b hb => k b (by rw [z]; omega)) r⟩
  | .ins _ _ _, _, f, k, ⟨a, dx, vs, g, q, h, l, r, z⟩ => ⟨a, dx, vs, q, (k a (by rw [z, if_pos rfl]; omega)).trans h, l, RpSs.frz e (fun b hb => k b (by rw [z]; omega)) r⟩
theorem RpSs.frz {R H R' : Hp} (e : Same R R') : ∀ {ss : List Sv} {vs : List V} {f : Fp}, (∀ a, f a ≠ 0 → R' a = H a) → RpSs G R H ss vs f → RpDs G R' (frzs ss) vs
  | [], _, _, _, ⟨h, _⟩ => h
  | _ :: _, _, f, k, ⟨v, vr, g, l, q, h, r, z⟩ => ⟨v, vr, q, RpS.frz e (fun b hb => k b (by rw [z]; omega)) h, RpSs.frz e (fun b hb => k b (by rw [z]; omega)) r⟩
end
open Classical in
/-- the top is frozen -/
theorem Cfg.freeze {s : Sv} {v : V} (c : Cfg G Z R H (s :: ts) (v :: vs) env σ) : ∃ R', Same R R' ∧ Cfg G Z R' H (.fz s.frz :: ts) (v :: vs) env σ := by
  obtain ⟨⟨ft, fe, ⟨v', vr, g, k, e, h1, h1', z⟩, h2, w, t⟩, pn⟩ := c
  cases e
  have gz : ∀ a, g a ≠ 0 → R a = none := fun a h => w.off a (by show ft a + fe a ≠ 0; rw [z]; omega)
  have sR : Same R (fun a => if g a ≠ 0 then H a else R a) := fun b u e => by
    show (if g b ≠ 0 then H b else R b) = some u
    by_cases q : g b = 0
    · rw [if_neg (by omega)]; exact e
    · rw [gz b q] at e; cases e
  have gk : ∀ a, g a ≠ 0 → k a = 0 ∧ fe a = 0 := fun a h => by
    have : ft a + fe a ≤ 1 := w.one a
    rw [z] at this
    omega
  refine ⟨_, sR, ⟨k, fe, ⟨v, vs, fun _ => 0, k, rfl, ⟨h1.frz sR fun a h => if_pos h, fun _ => rfl⟩, h1'.mono sR fun _ _ _ e => e, fun b => (Nat.zero_add _).symm⟩, h2.mono sR fun _ _ _ e => e, ⟨fun b u e => ?_, fun a => ?_, fun a h => ?_, fun a h => ?_⟩, ⟨fun a u e => sR a u (t.rs a u e), t.keep, t.dom, fun a h => ?_, fun a h => ?_⟩⟩, pn⟩
  · have e : (if g b ≠ 0 then H b else R b) = some u := e
    by_cases q : g b = 0
    · rw [if_neg (by omega)] at e; exact w.sub b u e
    · rw [if_pos q] at e; exact e
  · have : ft a + fe a ≤ 1 := w.one a
    rw [z] at this
    show k a + fe a ≤ 1
    omega
  · show (if g a ≠ 0 then H a else R a) = none
    have h : k a + fe a ≠ 0 := h
    by_cases q : g a = 0
    · rw [if_neg (by omega)]; exact w.off a (by show ft a + fe a ≠ 0; rw [z]; omega)
    · have := gk a q; omega
  · have h : k a + fe a ≠ 0 := h
    exact w.on a (by show ft a + fe a ≠ 0; rw [z]; omega)
  · have h : k a + fe a ≠ 0 := h
    exact t.new a (by show ft a + fe a ≠ 0; rw [z]; omega)
  · have h : (if g a ≠ 0 then H a else R a) ≠ none := h
    by_cases q : g a = 0
    · rw [if_neg (by omega)] at h; exact t.newR a h
    · exact .inr (t.new a (by show ft a + fe a ≠ 0; rw [z]; omega))
/-- a slot's content as a temporary -/
theorem Cfg.take {i : Nat} {s : Sv} (c : Cfg G Z R H ts vs env σ) (h : env[i]? = some (some s)) : ∃ v, σ[i]? = some (some v) ∧ Cfg G Z R H (s :: ts) (v :: vs) (env.set i none) σ := by
  obtain ⟨⟨ft, fe, h1, h2, w, t⟩, pn⟩ := c
  obtain ⟨v, g, k, e, h3, h4, z⟩ := h2.take h
  have eq : ∀ b, g b + ft b + k b = ft b + fe b := fun b => by rw [z]; omega
  exact ⟨v, e, ⟨fun b => g b + ft b, k, ⟨v, vs, g, ft, rfl, h3, h1, fun _ => rfl⟩, h4, w.same eq, t.less fun b => Nat.le_of_eq (eq b)⟩, pn⟩
/-- put back -/
theorem Cfg.back {i : Nat} {s : Sv} {v : V} (c : Cfg G Z R H (s :: ts) (v :: vs) env σ) (h : σ[i]? = some (some v)) : Cfg G Z R H ts vs (env.set i (some s)) σ := by
  obtain ⟨⟨ft, fe, ⟨v', vr, g, k, e, h1, h1', z⟩, h2, w, t⟩, pn⟩ := c
  cases e
  obtain ⟨k', h3, h4⟩ := EnvRp.back h1 h h2
  have le : ∀ b, k b + (g b + k' b) ≤ ft b + fe b := fun b => by
    have := h4 b
    rw [z]
    omega
  exact ⟨⟨k, _, h1', h3, w.less le, t.less le⟩, pn⟩
/-- stored -/
theorem Cfg.store {i : Nat} {s : Sv} {v : V} (c : Cfg G Z R H (s :: ts) (v :: vs) env σ) (h : i < env.length) (hp : Z.pin i = none) : Cfg G Z R H ts vs (env.set i (some s)) (σ.set i (some v)) := by
  obtain ⟨⟨ft, fe, ⟨v', vr, g, k, e, h1, h1', z⟩, h2, w, t⟩, pn⟩ := c
  cases e
  obtain ⟨k', h3, h4⟩ := EnvRp.put h1 h h2
  have le : ∀ b, k b + (g b + k' b) ≤ ft b + fe b := fun b => by
    have := h4 b
    rw [z]
    omega
  refine ⟨⟨k, _, h1', h3, w.less le, t.less le⟩, fun j u e => ?_⟩
  have ne : i ≠ j := fun z => by subst z; rw [hp] at e; cases e
  rw [List.getElem?_set_ne ne]
  exact pn j u e
theorem Cfg.slot {i : Nat} {d : Dt} (c : Cfg G Z R H ts vs env σ) (h : env[i]? = some (some (.fz d))) : ∃ v, σ[i]? = some (some v) ∧ RpD G R d v := by
  obtain ⟨v, e, c'⟩ := c.take h
  exact ⟨v, e, c'.top⟩
/-- the list on top is written -/
theorem Cfg.write {es : List Sv} {evs : List V} {ss : List Sv} {a : Addr} (hl : es.length = evs.length) (c : Cfg G Z R H (es ++ .lst ss :: ts) (evs ++ .ref a :: vs) env σ) :
    ∃ ws, H a = some (.lst ws) ∧ ws.length = ss.length ∧ ∀ es' evs' ss' ws', (∀ H' g, RpSs G R H' (es ++ ss) (evs ++ ws) g → ∃ g1 g2 : Fp, RpSs G R H' es' evs' g1 ∧ RpSs G R H' ss' ws' g2 ∧ ∀ b, g1 b + g2 b ≤ g b) →
      Cfg G Z R (upd H a (.lst ws')) (es' ++ .lst ss' :: ts) (evs' ++ .ref a :: vs) env σ := by
  obtain ⟨⟨ft, fe, h1, h2, w, t⟩, pn⟩ := c
  obtain ⟨g1, g2, h3, ⟨v0, vr, g3, g4, e0, ⟨a', ws, g5, e1, ha, hs, z5⟩, h4, z4⟩, z⟩ := RpSs.split' hl h1
  cases e0
  cases e1
  refine ⟨ws, ha, hs.len.symm, fun es' evs' ss' ws' hr => ?_⟩
  have tot : ∀ b, ft b + fe b = g1 b + ((if b = a then 1 else 0) + g5 b) + g4 b + fe b := fun b => by
    have q1 := z b
    have q2 := z4 b
    have q3 := z5 b
    omega
  have fa : g1 a = 0 ∧ g5 a = 0 ∧ g4 a = 0 ∧ fe a = 0 := by
    have : ft a + fe a ≤ 1 := w.one a
    rw [tot a, if_pos rfl] at this
    omega
  have kp : ∀ b o, b ≠ a → H b = some o → upd H a (.lst ws') b = some o := fun b o n e => by rw [upd_ne n]; exact e
  have h3' := h3.mono (H' := upd H a (.lst ws')) (Same.refl R) fun b o q e => kp b o (fun z => by subst z; exact q fa.1) e
  have hs' := hs.mono (H' := upd H a (.lst ws')) (Same.refl R) fun b o q e => kp b o (fun z => by subst z; exact q fa.2.1) e
  have h4' := h4.mono (H' := upd H a (.lst ws')) (Same.refl R) fun b o q e => kp b o (fun z => by subst z; exact q fa.2.2.1) e
  have h2' := h2.mono (H' := upd H a (.lst ws')) (Same.refl R) fun b o q e => kp b o (fun z => by subst z; exact q fa.2.2.2) e
  obtain ⟨r1, r2, k1, k2, zr⟩ := hr _ _ (RpSs.join hs' h3')
  have le : ∀ b, r1 b + ((if b = a then 1 else 0) + r2 b + g4 b) + fe b ≤ ft b + fe b := fun b => by
    have := zr b
    rw [tot b]
    omega
  have nR : R a = none := w.off a (by show ft a + fe a ≠ 0; rw [tot a, if_pos rfl]; omega)
  have k3 : RpSs G R (upd H a (.lst ws')) (.lst ss' :: ts) (.ref a :: vs) (fun b => (if b = a then 1 else 0) + r2 b + g4 b) :=
    ⟨.ref a, vs, fun b => (if b = a then 1 else 0) + r2 b, g4, rfl, ⟨a, ws', r2, rfl, upd_same, k2, fun _ => rfl⟩, h4', fun _ => rfl⟩
  have w' := w.less le
  have t' := t.less le
  refine ⟨⟨_, fe, RpSs.join k3 k1, h2', ⟨fun b o e => ?_, w'.one, w'.off, fun b h => ?_⟩, ⟨t'.rs, fun b o e q => ?_, fun b h => ?_, t'.new, t'.newR⟩⟩, pn⟩
  · exact kp b o (fun z => by subst z; rw [nR] at e; cases e) (w.sub b o e)
  · by_cases q : b = a
    · subst q; rw [upd_same]; exact fun z => nomatch z
    · rw [upd_ne q]; exact w'.on b h
  · refine kp b o (fun z => ?_) (t.keep b o e q)
    subst z
    rcases t.new b (by show ft b + fe b ≠ 0; rw [tot b, if_pos rfl]; omega) with x | x
    · exact x q
    · rw [x] at e; cases e
  · by_cases q : b = a
    · subst q; rw [upd_same]; exact fun z => nomatch z
    · rw [upd_ne q]; exact t.dom b h
/-- a new beginning for the code within -/
theorem Cfg.rebase (c : Cfg G Z R H ts vs env σ) : ∃ ft fe : Fp, RpSs G R H ts vs ft ∧ Cfg G ⟨R, H, fe, Z.pin⟩ R H [] [] env σ ∧
    ∀ {R' H' ts' vs' env' σ'}, Cfg G ⟨R, H, fe, Z.pin⟩ R' H' ts' vs' env' σ' → Cfg G Z R' H' (ts' ++ ts) (vs' ++ vs) env' σ' ∧ Same R R' ∧ ∀ a o, ft a ≠ 0 → H a = some o → H' a = some o := by
  obtain ⟨⟨ft, fe, h1, h2, w, t⟩, pn⟩ := c
  refine ⟨ft, fe, h1, ⟨⟨fun _ => 0, fe, ⟨rfl, fun _ => rfl⟩, h2, w.less fun b => by show 0 + fe b ≤ _; omega, Tr.refl.less fun b => by show 0 + fe b ≤ fe b; omega⟩, pn⟩, ?_⟩
  rintro R' H' ts' vs' env' σ' ⟨⟨ft', fe', k1, k2, w', t'⟩, pn'⟩
  have keep : ∀ a o, ft a ≠ 0 → H a = some o → H' a = some o := fun a o h e => t'.keep a o e (by
    have : ft a + fe a ≤ 1 := w.one a
    show fe a = 0
    omega)
  have eq : ∀ b, ft' b + ft b + fe' b = ft b + (ft' b + fe' b) := fun b => by omega
  refine ⟨⟨⟨fun b => ft' b + ft b, fe', RpSs.join (h1.mono t'.rs keep) k1, k2, (w.frame w' t').same eq, ((t.trans (Tr.frame (g := ft) t')).less fun b => Nat.le_of_eq (eq b))⟩, pn'⟩, t'.rs, keep⟩
end
end Fw
set_option Elab.async false
set_option linter.all false
set_option maxRecDepth 100000
set_option maxHeartbeats 1000000
/-! Judgements: an expression, a test, an argument list, a statement as a function on environments. -/
namespace Fw
open PySem PySem.Spec PyProof.Rows L2

abbrev gd (X : Cx) (C : Str → Addr) : Gd := ⟨X.prog, X.w, X.K, C⟩

/-- an exception's class and fields, as the handlers see it -/
def XRp (G : Gd) (R : Hp) (x : Xn) (c : Value) (d : Option Addr) : Prop :=
  c = .ref (G.C x.c) ∧ ∃ dx vs, d = some dx ∧ R dx = some (.xd (x.ns.zip vs)) ∧ vs.length = x.ns.length ∧ RpDs G R x.ds vs

/-! ### readings -/
def ArgC (G : Gd) (Z : Zn) (R H : Hp) (a : Arg) (v : V) (ts : List Sv) (vs : List V) (env : Env) (σ : L2.St) : Prop :=
  match a with
  | .v s => Cfg G Z R H (s :: ts) (v :: vs) env σ
  | .r i => σ[i]? = some (some v) ∧ Cfg G Z R H ts vs env σ
/-- what is wanted where an exception leaves -/
def ExW (G : Gd) (Z : Zn) (W : WX) (x : Xn) (env : Env) (σ : L2.St) : Prop := ∀ c d R' H', XRp G R' x c d → Cfg G Z R' H' [] [] env σ → W c d σ H'
def Out (G : Gd) (Z : Zn) (W : WX) (ts : List Sv) (vs : List V) (σ : L2.St) (Q : VK) : Res (Arg × Env) → Prop
  | .ok (a, e) => ∀ v R' H', ArgC G Z R' H' a v ts vs e σ → Q v H'
  | .exc x e => ExW G Z W x e σ
  | .bad => False
def ER (G : Gd) (Z : Zn) (W : WX) (f : Ex) : TE := fun σ H Q => ∃ R ts vs env, Cfg G Z R H ts vs env σ ∧ Out G Z W ts vs σ Q (f env)
def OutT (G : Gd) (Z : Zn) (W : WX) (ts : List Sv) (vs : List V) (σ : L2.St) (Q : Bool → Hp → Prop) : Res (Bool × Env) → Prop
  | .ok (b, e) => ∀ R' H', Cfg G Z R' H' ts vs e σ → Q b H'
  | .exc x e => ExW G Z W x e σ
  | .bad => False
def TTR (G : Gd) (Z : Zn) (W : WX) (f : Env → Res (Bool × Env)) : TT := fun σ H Q => ∃ R ts vs env, Cfg G Z R H ts vs env σ ∧ OutT G Z W ts vs σ Q (f env)
/-- arguments: which of their values are temporaries -/
inductive Tmp (σ : L2.St) : List Arg → List V → List Sv → List V → Prop
  | nil : Tmp σ [] [] [] []
  | v {as ws ss tw s w} : Tmp σ as ws ss tw → Tmp σ (.v s :: as) (w :: ws) (s :: ss) (w :: tw)
  | r {as ws ss tw i w} : σ[i]? = some (some w) → Tmp σ as ws ss tw → Tmp σ (.r i :: as) (w :: ws) ss tw
def ArgsC (G : Gd) (Z : Zn) (R H : Hp) (as : List Arg) (ws : List V) (ts : List Sv) (vs : List V) (env : Env) (σ : L2.St) : Prop :=
  ∃ ss tw, Tmp σ as ws ss tw ∧ Cfg G Z R H (ss ++ ts) (tw ++ vs) env σ
def OutA (G : Gd) (Z : Zn) (W : WX) (ts : List Sv) (vs : List V) (σ : L2.St) (Q : List V → Hp → Prop) : Res (List Arg × Env) → Prop
  | .ok (as, e) => ∀ ws R' H', ArgsC G Z R' H' as ws ts vs e σ → Q ws H'
  | .exc x e => ExW G Z W x e σ
  | .bad => False
def AR (G : Gd) (Z : Zn) (W : WX) (f : Env → Res (List Arg × Env)) : TA := fun σ H Q => ∃ R ts vs env, Cfg G Z R H ts vs env σ ∧ OutA G Z W ts vs σ Q (f env)
inductive SRes where
  | next (e : Env)
  | ret (s : Sv) (e : Env)
  | brk (e : Env)
  | cnt (e : Env)
  | exc (x : Xn) (e : Env)
  | bad
abbrev Stx := Env → SRes
def OutS (G : Gd) (Z : Zn) (W : WX) (D : Ends) : SRes → Prop
  | .next e => ∀ σ' R' H', Cfg G Z R' H' [] [] e σ' → D.nx σ' H'
  | .ret s e => ∀ σ' v R' H', Cfg G Z R' H' [s] [v] e σ' → D.rt v H'
  | .brk e => ∀ σ' R' H', Cfg G Z R' H' [] [] e σ' → D.bk σ' H'
  | .cnt e => ∀ σ' R' H', Cfg G Z R' H' [] [] e σ' → D.ct σ' H'
  | .exc x e => ∀ σ', ExW G Z W x e σ'
  | .bad => False
def SR (G : Gd) (Z : Zn) (W : WX) (f : Stx) : TS := fun D σ H => ∃ R env, Cfg G Z R H [] [] env σ ∧ OutS G Z W D (f env)

structure VE (C : Str → Addr) (X : Cx) (W : WX) (e : Expr) (f : Ex) : Prop where
  run : ∀ Z, PE X e (ER (gd X C) Z W f)
structure VT (C : Str → Addr) (X : Cx) (W : WX) (e : Expr) (f : Env → Res (Bool × Env)) : Prop where
  run : ∀ Z, PT X e (TTR (gd X C) Z W f)
structure VW (C : Str → Addr) (X : Cx) (W : WX) (e : Expr) (f : Env → Res (Bool × Env)) : Prop where
  run : ∀ Z, PW X e (TTR (gd X C) Z W f)
structure VA (C : Str → Addr) (X : Cx) (W : WX) (es : List Expr) (f : Env → Res (List Arg × Env)) : Prop where
  run : ∀ Z, PA X es (AR (gd X C) Z W f)
/-- P: the slots that are never stored into -/
def Pinned (Z : Zn) (P : List Bool) : Prop := ∀ j, P.getD j false = false → Z.pin j = none
structure VS (C : Str → Addr) (X : Cx) (W : WX) (P : List Bool) (st : Stmt) (f : Stx) : Prop where
  run : ∀ Z, Pinned Z P → PS X st (SR (gd X C) Z W f)
structure VB (C : Str → Addr) (X : Cx) (W : WX) (P : List Bool) (st : List Stmt) (f : Stx) : Prop where
  run : ∀ Z, Pinned Z P → PSs X st (SR (gd X C) Z W f)

section
variable {X : Cx}
theorem pe_imp {e : Expr} {t t' : TE} (h : PE X e t) (i : ∀ σ H Q, t' σ H Q → t σ H Q) : PE X e t' := ⟨fun pins s σ H Q I q => h.run pins s σ H Q I (i σ H Q q)⟩
theorem pt_imp {e : Expr} {t t' : TT} (h : PT X e t) (i : ∀ σ H Q, t' σ H Q → t σ H Q) : PT X e t' := ⟨fun pins s σ H Q I q => h.run pins s σ H Q I (i σ H Q q)⟩
theorem pw_imp {e : Expr} {t t' : TT} (h : PW X e t) (i : ∀ σ H Q, t' σ H Q → t σ H Q) : PW X e t' := ⟨fun wh pins s σ H Q I q => h.run wh pins s σ H Q I (i σ H Q q)⟩
theorem pa_imp {es : List Expr} {t t' : TA} (h : PA X es t) (i : ∀ σ H Q, t' σ H Q → t σ H Q) : PA X es t' := ⟨fun pos pins s σ H Q I q => h.run pos pins s σ H Q I (i σ H Q q)⟩
theorem ps_imp {st : Stmt} {t t' : TS} (h : PS X st t) (i : ∀ D σ H, t' D σ H → t D σ H) : PS X st t' := ⟨fun pins s σ H D I q => h.run pins s σ H D I (i D σ H q)⟩
theorem pss_imp {st : List Stmt} {t t' : TS} (h : PSs X st t) (i : ∀ D σ H, t' D σ H → t D σ H) : PSs X st t' := ⟨fun pins s σ H D I q => h.run pins s σ H D I (i D σ H q)⟩
end

/-! ### taking the arguments -/
@[simp] def takeA : List Arg → Env → Option (List Sv × Env)
  | [], env => some ([], env)
  | .v s :: as, env => (takeA as env).bind fun p => some (s :: p.1, p.2)
  | .r i :: as, env => match env[i]? with
    | some (some s) => (takeA as (env.set i none)).bind fun p => some (s :: p.1, p.2)
    | _ => none
@[simp] def putA : List Arg → Env → Env → Env
  | .v _ :: as, _ :: os, env => putA as os env
  | .r i :: as, o :: os, env => putA as os (env.set i o)
  | _, _, env => env

section
variable {G : Gd} {Z : Zn} {R H : Hp} {ts : List Sv} {vs : List V} {env : Env} {σ : L2.St}
/-- the top goes behind others -/
theorem Cfg.under {s : Sv} {v : V} {ss : List Sv} {ws : List V} (hl : ss.length = ws.length) (c : Cfg G Z R H (s :: (ss ++ ts)) (v :: (ws ++ vs)) env σ) : Cfg G Z R H (ss ++ s :: ts) (ws ++ v :: vs) env σ := c.reord fun g h => by
  obtain ⟨v', vr, g1, k, e, h1, h2, z⟩ := h
  cases e
  obtain ⟨k1, k2, h3, h4, z2⟩ := RpSs.split' hl h2
  have h5 : RpSs G R H (s :: ts) (v :: vs) (fun b => g1 b + k2 b) := ⟨v, vs, g1, k2, rfl, h1, h4, fun _ => rfl⟩
  refine ⟨_, RpSs.join h5 h3, fun b => ?_⟩
  have := z b
  have := z2 b
  show k1 b + (g1 b + k2 b) ≤ g b
  omega
theorem Cfg.over {s : Sv} {v : V} {ss : List Sv} {ws : List V} (hl : ss.length = ws.length) (c : Cfg G Z R H (ss ++ s :: ts) (ws ++ v :: vs) env σ) : Cfg G Z R H (s :: (ss ++ ts)) (v :: (ws ++ vs)) env σ := c.reord fun g h => by
  obtain ⟨k1, k2, h3, ⟨v', vr, g1, k, e, h1, h2, z⟩, z2⟩ := RpSs.split' hl h
  cases e
  refine ⟨_, ⟨v, _, g1, _, rfl, h1, RpSs.join h2 h3, fun _ => rfl⟩, fun b => ?_⟩
  have := z b
  have := z2 b
  show g1 b + (k1 b + k b) ≤ g b
  omega
theorem Tmp.len {as : List Arg} {ws : List V} {ss : List Sv} {tw : List V} (t : Tmp σ as ws ss tw) : ss.length = tw.length := by
  induction t with
  | nil => rfl
  | v _ ih => rw [List.length_cons, List.length_cons, ih]
  | r _ _ ih => exact ih
theorem take_all {as : List Arg} {ws : List V} {ss : List Sv} {tw : List V} (t : Tmp σ as ws ss tw) : ∀ {ts : List Sv} {vs : List V} {env env' : Env} {out : List Sv}, takeA as env = some (out, env') → Cfg G Z R H (ss ++ ts) (tw ++ vs) env σ →
    Cfg G Z R H (out ++ ts) (ws ++ vs) env' σ ∧ out.length = ws.length := by
  induction t with
  | nil =>
    intro ts vs env env' out h c
    cases h
    exact ⟨c, rfl⟩
  | @v as ws ss tw s w t ih =>
    intro ts vs env env' out h c
    simp only [takeA] at h
    cases q : takeA as env with
    | some p =>
      rw [q] at h
      cases h
      obtain ⟨c2, l⟩ := ih q (Cfg.under t.len c)
      exact ⟨Cfg.over l c2, by rw [List.length_cons, List.length_cons, l]⟩
    | none => rw [q] at h; cases h
  | @r as ws ss tw i w hi t ih =>
    intro ts vs env env' out h c
    simp only [takeA] at h
    split at h
    · rename_i s hs
      cases q : takeA as (env.set i none) with
      | some p =>
        rw [q] at h
        cases h
        obtain ⟨v, hv, c1⟩ := c.take hs
        rw [hi] at hv
        cases hv
        obtain ⟨c2, l⟩ := ih q (Cfg.under t.len c1)
        exact ⟨Cfg.over l c2, by rw [List.length_cons, List.length_cons, l]⟩
      | none => rw [q] at h; cases h
    · cases h
theorem Cfg.forget {i : Nat} (c : Cfg G Z R H ts vs env σ) : Cfg G Z R H ts vs (env.set i none) σ := by
  cases h : env[i]? with
  | none => rw [List.set_eq_of_length_le (List.getElem?_eq_none_iff.mp h)]; exact c
  | some o =>
    cases o with
    | none =>
      rw [show env.set i none = env from by
        apply List.ext_getElem?
        intro j
        by_cases e : i = j
        · subst e; rw [List.getElem?_set_self (List.getElem?_eq_some_iff.mp h).1, h]
        · rw [List.getElem?_set_ne e]]
      exact c
    | some s =>
      obtain ⟨v, _, c1⟩ := c.take h
      exact c1.pop
/-- behind: what was taken is put back (oo: none where it is lost) -/
theorem put_all {as : List Arg} {ws : List V} {ss : List Sv} {tw : List V} (t : Tmp σ as ws ss tw) : ∀ {oo : Env} {ts : List Sv} {vs : List V} {env : Env}, oo.length = ws.length → Cfg G Z R H (oo.filterMap id ++ ts) ((oo.zip ws).filterMap (fun p => p.1.map fun _ => p.2) ++ vs) env σ →
    Cfg G Z R H ts vs (putA as oo env) σ := by
  induction t with
  | nil =>
    intro oo ts vs env hl c
    cases oo with
    | nil => exact c
    | cons o r => cases hl
  | @v as ws ss tw s w t ih =>
    intro oo ts vs env hl c
    cases oo with
    | nil => cases hl
    | cons o r =>
      have hl' : r.length = ws.length := by simpa using hl
      cases o with
      | none => exact ih hl' c
      | some s' => exact ih hl' c.pop
  | @r as ws ss tw i w hi t ih =>
    intro oo ts vs env hl c
    cases oo with
    | nil => cases hl
    | cons o r =>
      have hl' : r.length = ws.length := by simpa using hl
      cases o with
      | none => exact ih hl' c.forget
      | some s' => exact ih hl' (c.back hi)
theorem put_same {ss : List Sv} {ws : List V} (hl : ss.length = ws.length) : (ss.map some).filterMap id = ss ∧ ((ss.map some).zip ws).filterMap (fun p => p.1.map fun _ => p.2) = ws := by
  refine ⟨by rw [List.filterMap_map]; exact List.filterMap_some, ?_⟩
  induction ss generalizing ws with
  | nil => cases ws with
    | nil => rfl
    | cons _ _ => cases hl
  | cons s ss ih => cases ws with
    | nil => cases hl
    | cons w ws =>
      have := ih (ws := ws) (by simpa using hl)
      simp only [List.map_cons, List.zip_cons_cons, List.filterMap_cons, Option.map_some]
      rw [this]
theorem put_ok {as : List Arg} {ws : List V} {ss0 : List Sv} {tw : List V} (t : Tmp σ as ws ss0 tw) {ss : List Sv} (hl : ss.length = ws.length) (c : Cfg G Z R H (ss ++ ts) (ws ++ vs) env σ) : Cfg G Z R H ts vs (putA as (ss.map some) env) σ := by
  obtain ⟨e1, e2⟩ := put_same hl
  exact put_all t (oo := ss.map some) (by rw [List.length_map, hl]) (by rw [e1, e2]; exact c)
theorem ArgC.tmp {a : Arg} {v : V} (c : ArgC G Z R H a v ts vs env σ) : ∃ ss tw, Tmp σ [a] [v] ss tw ∧ Cfg G Z R H (ss ++ ts) (tw ++ vs) env σ := by
  cases a with
  | v s => exact ⟨[s], [v], .v .nil, c⟩
  | r i => exact ⟨[], [], .r c.1 .nil, c.2⟩
end

/-! ### arguments from the left -/
@[simp] def aNil : Env → Res (List Arg × Env) := fun env => .ok ([], env)
@[simp] def aCons (f : Ex) (g : Env → Res (List Arg × Env)) : Env → Res (List Arg × Env) := fun env => (f env).bind fun p => (g p.2).bind fun q => .ok (p.1 :: q.1, q.2)
section
variable {C : Str → Addr} {X : Cx} {W : WX}
theorem va_nil : VA C X W [] aNil := ⟨fun Z => pa_imp pa_nil fun σ H Q ⟨R, ts, vs, env, c, h⟩ => h [] R H ⟨[], [], .nil, c⟩⟩
theorem ER.mono {G : Gd} {Z : Zn} {f : Ex} {σ : L2.St} {H : Hp} {Q Q' : VK} (h : ER G Z W f σ H Q) (i : ∀ v H, Q v H → Q' v H) : ER G Z W f σ H Q' := by
  obtain ⟨R, ts, vs, env, c, h⟩ := h
  refine ⟨R, ts, vs, env, c, ?_⟩
  revert h
  generalize f env = r
  intro h
  match r, h with
  | .ok (a, e), h => exact fun v R' H' x => i _ _ (h v R' H' x)
  | .exc x e, h => exact h
theorem ER.bind {G : Gd} {Z : Zn} {f : Ex} {k : Arg × Env → Res (Arg × Env)} {σ : L2.St} {H : Hp} {Q Q' : VK} (h : ER G Z W (fun env => (f env).bind k) σ H Q)
    (i : ∀ R1 H1 ts vs a v e, ArgC G Z R1 H1 a v ts vs e σ → Out G Z W ts vs σ Q (k (a, e)) → Q' v H1) : ER G Z W f σ H Q' := by
  obtain ⟨R, ts, vs, env, c, h⟩ := h
  refine ⟨R, ts, vs, env, c, ?_⟩
  revert h
  show Out G Z W ts vs σ Q ((f env).bind k) → _
  generalize f env = r
  intro h
  match r, h with
  | .ok (a, e), h => exact fun v R' H' x => i _ _ _ _ _ _ _ x h
  | .exc x e, h => exact h
theorem AR.bind {G : Gd} {Z : Zn} {f : Env → Res (List Arg × Env)} {k : List Arg × Env → Res (Arg × Env)} {σ : L2.St} {H : Hp} {Q : VK} {Q' : List V → Hp → Prop} (h : ER G Z W (fun env => (f env).bind k) σ H Q)
    (i : ∀ R1 H1 ts vs as ws e, ArgsC G Z R1 H1 as ws ts vs e σ → Out G Z W ts vs σ Q (k (as, e)) → Q' ws H1) : AR G Z W f σ H Q' := by
  obtain ⟨R, ts, vs, env, c, h⟩ := h
  refine ⟨R, ts, vs, env, c, ?_⟩
  revert h
  show Out G Z W ts vs σ Q ((f env).bind k) → _
  generalize f env = r
  intro h
  match r, h with
  | .ok (as, e), h => exact fun v R' H' x => i _ _ _ _ _ _ _ x h
  | .exc x e, h => exact h
theorem va_cons {e : Expr} {es : List Expr} {f : Ex} {g : Env → Res (List Arg × Env)} (he : VE C X W e f) (hr : VA C X W es g) (hs : starEach (e :: es) X.env = (false, eval e X.env) :: starEach es X.env := by rfl) : VA C X W (e :: es) (aCons f g) := by
  refine ⟨fun Z => pa_imp (pa_cons (he.run Z) (hr.run Z) hs) fun σ H Q h => ?_⟩
  obtain ⟨R, ts, vs, env, c, h⟩ := h
  refine ⟨R, ts, vs, env, c, ?_⟩
  simp only [aCons] at h
  cases q : f env with
  | bad => rw [q] at h; exact h
  | exc x e => rw [q] at h; exact h
  | ok p =>
    obtain ⟨a, e1⟩ := p
    rw [q] at h
    intro v R1 H1 c1
    obtain ⟨ss, tw, t1, c1⟩ := c1.tmp
    refine ⟨R1, ss ++ ts, tw ++ vs, e1, c1, ?_⟩
    simp only [Res.bind] at h
    cases q2 : g e1 with
    | bad => rw [q2] at h; exact h
    | exc x e => rw [q2] at h; exact h
    | ok p2 =>
      obtain ⟨as, e2⟩ := p2
      rw [q2] at h
      rintro ws R2 H2 ⟨ss2, tw2, t2, c2⟩
      refine h (v :: ws) R2 H2 ?_
      cases t1 with
      | v t =>
        cases t
        exact ⟨_, _, .v t2, Cfg.over t2.len c2⟩
      | r hi t =>
        cases t
        exact ⟨_, _, .r hi t2, c2⟩
end
end Fw
set_option Elab.async false
set_option linter.all false
set_option maxRecDepth 100000
set_option maxHeartbeats 1000000
/-! Rules: names, constants, operators, displays, subscripts, calls of built-ins, of one's own. -/
namespace Fw
open PySem PySem.Spec PyProof.Rows L2

/-! ### names, constants -/
@[simp] def eVar (i : Nat) : Ex := fun env => match env[i]? with
  | some (some (.fz d)) => .ok (.v (.fz d), env)
  | _ => .bad
@[simp] def eRef (i : Nat) : Ex := fun env => match env[i]? with
  | some (some _) => .ok (.r i, env)
  | _ => .bad
@[simp] def eFrz (i : Nat) : Ex := fun env => match env[i]? with
  | some (some s) => .ok (.v (.fz s.frz), env.set i (some (.fz s.frz)))
  | _ => .bad
@[simp] def eMove (i : Nat) : Ex := fun env => match env[i]? with
  | some (some s) => .ok (.v s, env.set i none)
  | _ => .bad
@[simp] def eC (d : Dt) : Ex := fun env => .ok (.v (.fz d), env)
section
variable {C : Str → Addr} {X : Cx} {W : WX}
theorem ve_var {i : Nat} {x : Str} {pos : Pos} (hN : X.N[i]? = some x := by rfl) (hv : Vis X.env.scope x := by first | exact Or.inl rfl | exact Or.inr (Or.inl rfl) | exact Or.inr (Or.inr rfl)) (hd : (x == ("__debug__" : Str)) = false := by decide) (hcd : (x == ("__classdict__" : Str)) = false := by decide) : VE C X W (.Name x pos) (eVar i) := by
  refine ⟨fun Z => pe_imp (pe_var hN hv hd hcd) fun σ H Q ⟨R, ts, vs, env, c, h⟩ => ?_⟩
  unfold eVar at h
  split at h
  · rename_i d hs
    obtain ⟨v, hv, r⟩ := c.slot hs
    exact ⟨v, hv, h v R H (c.push r)⟩
  · exact h.elim
theorem ve_ref {i : Nat} {x : Str} {pos : Pos} (hN : X.N[i]? = some x := by rfl) (hv : Vis X.env.scope x := by first | exact Or.inl rfl | exact Or.inr (Or.inl rfl) | exact Or.inr (Or.inr rfl)) (hd : (x == ("__debug__" : Str)) = false := by decide) (hcd : (x == ("__classdict__" : Str)) = false := by decide) : VE C X W (.Name x pos) (eRef i) := by
  refine ⟨fun Z => pe_imp (pe_var hN hv hd hcd) fun σ H Q ⟨R, ts, vs, env, c, h⟩ => ?_⟩
  unfold eRef at h
  split at h
  · rename_i s hs
    obtain ⟨v, hv, _⟩ := c.take hs
    exact ⟨v, hv, h v R H ⟨hv, c⟩⟩
  · exact h.elim
theorem ve_frz {i : Nat} {x : Str} {pos : Pos} (hN : X.N[i]? = some x := by rfl) (hv : Vis X.env.scope x := by first | exact Or.inl rfl | exact Or.inr (Or.inl rfl) | exact Or.inr (Or.inr rfl)) (hd : (x == ("__debug__" : Str)) = false := by decide) (hcd : (x == ("__classdict__" : Str)) = false := by decide) : VE C X W (.Name x pos) (eFrz i) := by
  refine ⟨fun Z => pe_imp (pe_var hN hv hd hcd) fun σ H Q ⟨R, ts, vs, env, c, h⟩ => ?_⟩
  unfold eFrz at h
  split at h
  · rename_i s hs
    obtain ⟨v, hv, c1⟩ := c.take hs
    obtain ⟨R', e, c2⟩ := c1.freeze
    refine ⟨v, hv, h v R' H ?_⟩
    have r := c2.top
    have c3 := c2.back hv
    rw [List.set_set] at c3
    exact c3.push r
  · exact h.elim
theorem ve_move {i : Nat} {x : Str} {pos : Pos} (hN : X.N[i]? = some x := by rfl) (hv : Vis X.env.scope x := by first | exact Or.inl rfl | exact Or.inr (Or.inl rfl) | exact Or.inr (Or.inr rfl)) (hd : (x == ("__debug__" : Str)) = false := by decide) (hcd : (x == ("__classdict__" : Str)) = false := by decide) : VE C X W (.Name x pos) (eMove i) := by
  refine ⟨fun Z => pe_imp (pe_var hN hv hd hcd) fun σ H Q ⟨R, ts, vs, env, c, h⟩ => ?_⟩
  unfold eMove at h
  split at h
  · rename_i s hs
    obtain ⟨v, hv, c1⟩ := c.take hs
    exact ⟨v, hv, h v R H c1⟩
  · exact h.elim
theorem ve_c {e : Expr} {v : V} {d : Dt} (h : PE X e (tC v)) (hd : ∀ R, RpD (gd X C) R d v) : VE C X W e (eC d) :=
  ⟨fun Z => pe_imp h fun σ H Q ⟨R, ts, vs, env, c, h⟩ => h v R H (c.push (hd R))⟩
theorem ve_int {i j pos} : VE C X W (.Constant (.int i) j pos) (eC (.int i)) := ve_c pe_int fun _ => rfl
theorem ve_bl {b j pos} : VE C X W (.Constant (.bool b) j pos) (eC (.bl b)) := ve_c pe_bl fun _ => rfl
theorem ve_non {j pos} : VE C X W (.Constant .none j pos) (eC .non) := ve_c pe_non fun _ => rfl
theorem ve_str {x j pos} : VE C X W (.Constant (.str x) j pos) (eC (.str x)) := ve_c pe_str fun _ => rfl
theorem ve_gint {x : Str} {i : Int} {t : Tok} {pos : Pos} (hg : Gl X x) (hm : X.mg x = some (.int i t)) (hd : (x == ("__debug__" : Str)) = false := by decide) : VE C X W (.Name x pos) (eC (.int i)) := ve_c (pe_glob (v := .int i) hg hm ⟨t, rfl⟩ hd) fun _ => rfl
theorem ve_gstr {x y : Str} {t : Tok} {pos : Pos} (hg : Gl X x) (hm : X.mg x = some (.str y t)) (hd : (x == ("__debug__" : Str)) = false := by decide) : VE C X W (.Name x pos) (eC (.str y)) := ve_c (pe_glob (v := .str y) hg hm ⟨t, rfl⟩ hd) fun _ => rfl
end

/-! ### operators -/
/-- the built-in's or operator's work on what the arguments own -/
@[simp] def finA (g : List Sv → Option (Sv × List Sv)) (as : List Arg) (e : Env) : Res (Arg × Env) :=
  match takeA as e with
  | none => .bad
  | some t => match g t.1 with
    | none => .bad
    | some r => if r.2.length = t.1.length then .ok (.v r.1, putA as (r.2.map some) t.2) else .bad
/-- r is served by g -/
def Srv (G : Gd) (r : List V → Hp → VK → Prop) (g : List Sv → Option (Sv × List Sv)) : Prop :=
  ∀ Z R H ss ws ts vs env σ s ss' Q, ss.length = ws.length → Cfg G Z R H (ss ++ ts) (ws ++ vs) env σ → g ss = some (s, ss') → ss'.length = ss.length →
    (∀ v R' H', Cfg G Z R' H' (s :: (ss' ++ ts)) (v :: (ws ++ vs)) env σ → Q v H') → r ws H Q
@[simp] def eBin (g : List Sv → Option (Sv × List Sv)) (fa fb : Ex) : Ex := fun env => (fa env).bind fun p => (fb p.2).bind fun q => finA g [p.1, q.1] q.2
@[simp] def eUn (g : List Sv → Option (Sv × List Sv)) (fa : Ex) : Ex := fun env => (fa env).bind fun p => finA g [p.1] p.2
@[simp] def eCall (g : List Sv → Option (Sv × List Sv)) (fa : Env → Res (List Arg × Env)) : Ex := fun env => (fa env).bind fun p => finA g p.1 p.2
@[simp] def svTy : Sv → String
  | .lst _ => "list"
  | .fz (.lst _) => "list"
  | .fz (.str _) => "str"
  | .fz (.int _) => "int"
  | _ => ""
@[simp] def argTy (a : Arg) (env : Env) : String := match a with
  | .v s => svTy s
  | .r i => match env[i]? with
    | some (some s) => svTy s
    | _ => ""
@[simp] def eMeth (T : String) (g : List Sv → Option (Sv × List Sv)) (fo : Ex) (fa : Env → Res (List Arg × Env)) : Ex := fun env => (fo env).bind fun p => if argTy p.1 p.2 = T then (fa p.2).bind fun q => finA g (p.1 :: q.1) q.2 else .bad
@[simp] def eMeth0 (T : String) (g : List Sv → Option (Sv × List Sv)) (fo : Ex) : Ex := fun env => (fo env).bind fun p => if argTy p.1 p.2 = T then finA g [p.1] p.2 else .bad
/-- the arguments stay -/
def keepG (g : List Sv → Option Sv) : List Sv → Option (Sv × List Sv) := fun ss => (g ss).map fun s => (s, ss)

section
variable {G : Gd} {Z : Zn} {W : WX} {R H : Hp} {ts : List Sv} {vs : List V} {env : Env} {σ : L2.St}
theorem fin_ok {g : List Sv → Option (Sv × List Sv)} {r : List V → Hp → VK → Prop} {as : List Arg} {ws : List V} {e : Env} {Q : VK} (hg : Srv G r g) (c : ArgsC G Z R H as ws ts vs e σ) (h : Out G Z W ts vs σ Q (finA g as e)) : r ws H Q := by
  obtain ⟨ss, tw, t, c⟩ := c
  unfold finA at h
  split at h
  · exact h.elim
  · rename_i p hp
    obtain ⟨out, e'⟩ := p
    obtain ⟨c1, l1⟩ := take_all t hp c
    split at h
    · exact h.elim
    · rename_i q hq
      obtain ⟨s, ss'⟩ := q
      split at h
      · rename_i hl
        exact hg Z R H out ws ts vs e' σ s ss' Q l1 c1 hq hl fun v R' H' c2 => h v R' H' (put_ok t (hl.trans l1) (ts := s :: ts) (vs := v :: vs) (Cfg.under (hl.trans l1) c2))
      · exact h.elim
theorem ArgC.two {a b : Arg} {v u : V} {ss : List Sv} {tw : List V} {e : Env} (t : Tmp σ [a] [v] ss tw) (c : ArgC G Z R H b u (ss ++ ts) (tw ++ vs) e σ) : ArgsC G Z R H [a, b] [v, u] ts vs e σ := by
  obtain ⟨s2, w2, t2, c⟩ := c.tmp
  cases t with
  | v t =>
    cases t
    exact ⟨_, _, .v t2, Cfg.over t2.len c⟩
  | r hi t =>
    cases t
    exact ⟨_, _, .r hi t2, c⟩
theorem ArgsC.cons {a : Arg} {as : List Arg} {v : V} {ws : List V} {ss : List Sv} {tw : List V} {e : Env} (t : Tmp σ [a] [v] ss tw) (c : ArgsC G Z R H as ws (ss ++ ts) (tw ++ vs) e σ) : ArgsC G Z R H (a :: as) (v :: ws) ts vs e σ := by
  obtain ⟨s2, w2, t2, c⟩ := c
  cases t with
  | v t =>
    cases t
    exact ⟨_, _, .v t2, Cfg.over t2.len c⟩
  | r hi t =>
    cases t
    exact ⟨_, _, .r hi t2, c⟩
/-- left, then right -/
theorem er_two {fa fb : Ex} {k : Arg → Arg → Env → Res (Arg × Env)} {H : Hp} {Q : VK} {Q' : V → V → Hp → Prop} (h : ER G Z W (fun env => (fa env).bind fun p => (fb p.2).bind fun q => k p.1 q.1 q.2) σ H Q)
    (i : ∀ R1 H1 ts vs a b v u e, ArgsC G Z R1 H1 [a, b] [v, u] ts vs e σ → Out G Z W ts vs σ Q (k a b e) → Q' v u H1) : ER G Z W fa σ H fun v H1 => ER G Z W fb σ H1 fun u H2 => Q' v u H2 := by
  refine h.bind fun R1 H1 ts vs a v e c o => ?_
  obtain ⟨ss, tw, t, c1⟩ := c.tmp
  refine ⟨R1, ss ++ ts, tw ++ vs, e, c1, ?_⟩
  revert o
  show Out G Z W ts vs σ Q ((fb e).bind fun q => k a q.1 q.2) → _
  generalize fb e = r
  intro o
  match r, o with
  | .ok (b, e2), o => exact fun u R2 H2 c2 => i _ _ _ _ _ _ _ _ _ (ArgC.two t c2) o
  | .exc x e2, o => exact o
theorem er_args {fo : Ex} {fa : Env → Res (List Arg × Env)} {k : Arg → List Arg → Env → Res (Arg × Env)} {fc : Arg → Env → Prop} [∀ a e, Decidable (fc a e)] {H : Hp} {Q : VK} {P : V → Hp → Prop} {Q' : V → List V → Hp → Prop} (h : ER G Z W (fun env => (fo env).bind fun p => if fc p.1 p.2 then (fa p.2).bind fun q => k p.1 q.1 q.2 else .bad) σ H Q)
    (j : ∀ R1 H1 ts vs a v e, ArgC G Z R1 H1 a v ts vs e σ → fc a e → P v H1)
    (i : ∀ R1 H1 ts vs a as v ws e, ArgsC G Z R1 H1 (a :: as) (v :: ws) ts vs e σ → Out G Z W ts vs σ Q (k a as e) → Q' v ws H1) : ER G Z W fo σ H fun v H1 => P v H1 ∧ AR G Z W fa σ H1 fun ws H2 => Q' v ws H2 := by
  refine h.bind (k := fun p => if fc p.1 p.2 then (fa p.2).bind fun q => k p.1 q.1 q.2 else .bad) fun R1 H1 ts vs a v e c o => ?_
  by_cases hf : fc a e
  · have o : Out G Z W ts vs σ Q (if fc a e then (fa e).bind fun q => k a q.1 q.2 else .bad) := o
    rw [if_pos hf] at o
    refine ⟨j _ _ _ _ _ _ _ c hf, ?_⟩
    obtain ⟨ss, tw, t, c1⟩ := c.tmp
    refine ⟨R1, ss ++ ts, tw ++ vs, e, c1, ?_⟩
    revert o
    generalize fa e = r
    intro o
    match r, o with
    | .ok (as, e2), o => exact fun ws R2 H2 c2 => i _ _ _ _ _ _ _ _ _ (ArgsC.cons t c2) o
    | .exc x e2, o => exact o
  · have o : Out G Z W ts vs σ Q (if fc a e then (fa e).bind fun q => k a q.1 q.2 else .bad) := o
    rw [if_neg hf] at o
    exact o.elim
end
section
variable {C : Str → Addr} {X : Cx} {W : WX} {a b : Expr} {fa fb : Ex} {pos : Pos}
def r2l (r : R2) : List V → Hp → VK → Prop := fun ws H Q => match ws with
  | [x, y] => r x y H Q
  | _ => False
def r1l (r : V → Hp → VK → Prop) : List V → Hp → VK → Prop := fun ws H Q => match ws with
  | [x] => r x H Q
  | _ => False
def rml (r : V → List V → Hp → VK → Prop) : List V → Hp → VK → Prop := fun ws H Q => match ws with
  | x :: xs => r x xs H Q
  | _ => False
theorem ve_op {op : Operator} {r : R2} {g : List Sv → Option (Sv × List Sv)} (hr : OpR X (binaryOp op) r) (hg : Srv (gd X C) (r2l r) g) (ha : VE C X W a fa) (hb : VE C X W b fb) : VE C X W (.BinOp a op b pos) (eBin g fa fb) :=
  ⟨fun Z => pe_imp (pe_op hr (ha.run Z) (hb.run Z)) fun σ H Q h => er_two (k := fun a b e => finA g [a, b] e) h fun _ _ _ _ _ _ _ _ _ c o => fin_ok hg c o⟩
theorem ve_cmp {op : CmpOp} {r : R2} {g : List Sv → Option (Sv × List Sv)} (hr : OpR X (compareOp op) r) (hg : Srv (gd X C) (r2l r) g) (ha : VE C X W a fa) (hb : VE C X W b fb) (hm : behindInMarks op b = false) : VE C X W (.Compare a [op] [b] pos) (eBin g fa fb) :=
  ⟨fun Z => pe_imp (pe_cmpR hr (ha.run Z) (hb.run Z) hm) fun σ H Q h => er_two (k := fun a b e => finA g [a, b] e) h fun _ _ _ _ _ _ _ _ _ c o => fin_ok hg c o⟩
theorem ve_ix {r : R2} {g : List Sv → Option (Sv × List Sv)} (hr : IxR X r) (hg : Srv (gd X C) (r2l r) g) (ha : VE C X W a fa) (hb : VE C X W b fb) (hp : PlainIx b) : VE C X W (.Subscript a b pos) (eBin g fa fb) :=
  ⟨fun Z => pe_imp (pe_ix hr (ha.run Z) (hb.run Z) hp) fun σ H Q h => er_two (k := fun a b e => finA g [a, b] e) h fun _ _ _ _ _ _ _ _ _ c o => fin_ok hg c o⟩
theorem ve_un {op : UnaryOp} {r : V → Hp → VK → Prop} {g : List Sv → Option (Sv × List Sv)} (hr : UnR X (unaryOp op) r) (hg : Srv (gd X C) (r1l r) g) (ha : VE C X W a fa) : VE C X W (.UnaryOp op a pos) (eUn g fa) :=
  ⟨fun Z => pe_imp (pe_un hr (ha.run Z)) fun σ H Q h => h.bind fun _ _ _ _ _ _ _ c o => by
    obtain ⟨ss, tw, t, c1⟩ := c.tmp
    exact fin_ok hg ⟨ss, tw, t, c1⟩ o⟩
variable {x : Str} {p : Pos} {e : Expr} {es : List Expr} {fA : Env → Res (List Arg × Env)}
theorem ve_callB {id : String} {r : List V → Hp → VK → Prop} {g : List Sv → Option (Sv × List Sv)} (hr : CallR X (.builtin id) r) (hg : Srv (gd X C) r g) (hgl : Gl X x) (hm : X.mg x = none) (hv : bootBuiltins x = some (.builtin id)) (ha : VA C X W (e :: es) fA)
    (hn : x ≠ ("__name__" : Str) := by decide) (hd : (x == ("__debug__" : Str)) = false := by decide) (hs : starEach (e :: es) X.env = (false, eval e X.env) :: starEach es X.env := by rfl) (hpl : (backTo pos (starEach es X.env)).any (·.1) = false := by rfl) : VE C X W (.Call (.Name x p) (e :: es) [] pos) (eCall g fA) :=
  ⟨fun Z => pe_imp (pe_callB hr hgl hm hv (ha.run Z) hn hd hs hpl) fun σ H Q h => AR.bind h fun _ _ _ _ _ _ _ c o => fin_ok hg c o⟩
theorem ve_callTy {T : String} {r : List V → Hp → VK → Prop} {g : List Sv → Option (Sv × List Sv)} (hr : CallR X (.type T) r) (hg : Srv (gd X C) r g) (hgl : Gl X x) (hm : X.mg x = none) (hv : bootBuiltins x = some (.type T)) (ha : VA C X W (e :: es) fA)
    (hn : x ≠ ("__name__" : Str) := by decide) (hd : (x == ("__debug__" : Str)) = false := by decide) (hs : starEach (e :: es) X.env = (false, eval e X.env) :: starEach es X.env := by rfl) (hpl : (backTo pos (starEach es X.env)).any (·.1) = false := by rfl) : VE C X W (.Call (.Name x p) (e :: es) [] pos) (eCall g fA) :=
  ⟨fun Z => pe_imp (pe_callTy hr hgl hm hv (ha.run Z) hn hd hs hpl) fun σ H Q h => AR.bind h fun _ _ _ _ _ _ _ c o => fin_ok hg c o⟩
theorem Cfg.ty {Z : Zn} {R H : Hp} {s : Sv} {v : V} {ts : List Sv} {vs : List V} {env : Env} {σ : L2.St} {T : String} (c : Cfg (gd X C) Z R H (s :: ts) (v :: vs) env σ) (h : svTy s = T) (hT : T ≠ "") : tyV X.K T v H := by
  have sub := c.wf
  obtain ⟨f, r⟩ := c.topS
  cases s with
  | lst ss =>
    obtain ⟨a, ws, g, rfl, ha, _⟩ := r
    exact .inl ⟨h.symm, ws, .inl (.inl ha)⟩
  | ins c ns ss => exact absurd h.symm hT
  | fz d =>
    cases d with
    | lst ds =>
      obtain ⟨⟨a, ws, rfl, ha, _⟩, _⟩ := r
      exact .inl ⟨h.symm, ws, sub.seq ha⟩
    | str x =>
      obtain ⟨rfl, _⟩ := r
      exact h.symm
    | int x =>
      obtain ⟨rfl, _⟩ := r
      exact h.symm
    | non => exact absurd h.symm hT
    | bl b => exact absurd h.symm hT
    | tup ds => exact absurd h.symm hT
    | obj c ns ds => exact absurd h.symm hT
theorem ArgC.ty {Z : Zn} {R H : Hp} {a : Arg} {v : V} {ts : List Sv} {vs : List V} {env : Env} {σ : L2.St} {T : String} (c : ArgC (gd X C) Z R H a v ts vs env σ) (h : argTy a env = T) (hT : T ≠ "") : tyV X.K T v H := by
  cases a with
  | v s => exact Cfg.ty c h hT
  | r i =>
    obtain ⟨hv, c⟩ := c
    unfold argTy at h
    simp only at h
    split at h
    · rename_i s hs
      obtain ⟨v', hv', c'⟩ := c.take hs
      rw [hv] at hv'
      cases hv'
      exact c'.ty h hT
    · exact absurd h.symm hT
theorem ve_meth {o : Expr} {fo : Ex} {name : Str} {apos cpos : Pos} {T id : String} {r : V → List V → Hp → VK → Prop} {g : List Sv → Option (Sv × List Sv)} (hpl : PlainAttrs T) (hsl : Slot T name id) (hty : typeOf (.builtin id) = pure (.type "method_descriptor"))
    (hr : MtR X id r) (hg : Srv (gd X C) (rml r) g) (hT : T ≠ "") (ho : VE C X W o fo) (ha : VA C X W (e :: es) fA)
    (hat : attributeBase o name X.env (eval o X.env) = eval o X.env := by rfl) (hb : ((backTo cpos (starEach (e :: es) X.env)).all (!·.1) && (backToKw cpos (keywordEach [] X.env)).all (·.1.isSome) && decide ((e :: es).length + ([] : List Keyword).length + (if ([] : List Keyword).isEmpty = true then 0 else 1) < 30)) = true := by rfl)
    (hp : (apos.endLine == cpos.line) = true := by rfl) (hs : starEach (e :: es) X.env = (false, eval e X.env) :: starEach es X.env := by rfl) (hpl2 : (backTo cpos (starEach es X.env)).any (·.1) = false := by rfl) : VE C X W (.Call (.Attribute o name apos) (e :: es) [] cpos) (eMeth T g fo fA) :=
  ⟨fun Z => pe_imp (pe_bm hpl hsl hty hr (ho.run Z) (ha.run Z) hat hb hp hs hpl2) fun σ H Q h => by
    refine er_args (k := fun a as e => finA g (a :: as) e) (fc := fun a e => argTy a e = T) h (fun _ _ _ _ _ _ _ c o => c.ty o hT) fun R1 H1 ts vs a as v ws e c o => (fin_ok (ws := v :: ws) hg c o : rml r (v :: ws) H1 Q)⟩
theorem ve_meth0 {o : Expr} {fo : Ex} {name : Str} {apos cpos : Pos} {T id : String} {r : V → List V → Hp → VK → Prop} {g : List Sv → Option (Sv × List Sv)} (hpl : PlainAttrs T) (hsl : Slot T name id) (hty : typeOf (.builtin id) = pure (.type "method_descriptor"))
    (hr : MtR X id r) (hg : Srv (gd X C) (rml r) g) (hT : T ≠ "") (ho : VE C X W o fo)
    (hat : attributeBase o name X.env (eval o X.env) = eval o X.env := by rfl) (hp : (apos.endLine == cpos.line) = true := by rfl) : VE C X W (.Call (.Attribute o name apos) [] [] cpos) (eMeth0 T g fo) :=
  ⟨fun Z => pe_imp (pe_bm0 hpl hsl hty hr (ho.run Z) hat hp) fun σ H Q h => by
    refine ER.bind (k := fun p => if argTy p.1 p.2 = T then finA g [p.1] p.2 else .bad) h fun _ _ _ _ a v e c o => ?_
    by_cases q : argTy a e = T
    · refine ⟨c.ty q hT, ?_⟩
      have o' : Out (gd X C) Z W _ _ σ Q (if argTy a e = T then finA g [a] e else .bad) := o
      rw [if_pos q] at o'
      obtain ⟨ss, tw, t, c1⟩ := c.tmp
      exact (fin_ok (ws := [v]) hg ⟨ss, tw, t, c1⟩ o' : rml r [v] _ Q)
    · have o' : Out (gd X C) Z W _ _ σ Q (if argTy a e = T then finA g [a] e else .bad) := o
      rw [if_neg q] at o'
      exact o'.elim⟩
end
end Fw
set_option Elab.async false
set_option linter.all false
set_option maxRecDepth 100000
set_option maxHeartbeats 1000000
/-! Calls of one's own defs, displays, truth, and, or, if. -/
namespace Fw
open PySem PySem.Spec PyProof.Rows L2

abbrev Fn := List Sv → Res (Sv × Env)
def OutF (G : Gd) (R H : Hp) (f : Fp) (ws : List V) (Q : VK) (E : XK) : Res (Sv × Env) → Prop
  | .ok (s, oo) => ∀ v R' H' g k, RpS G R' H' s v g → EnvRp G R' H' oo (ws.map some) k → Wf R' H' (fun b => g b + k b) → Tr R H f R' H' (fun b => g b + k b) → Q v H'
  | .exc x oo => ∀ c d R' H' k, XRp G R' x c d → EnvRp G R' H' oo (ws.map some) k → Wf R' H' k → Tr R H f R' H' k → E c d H'
  | .bad => False
/-- what a def promises: its value by m, what it was given as m says, all else as it was -/
def FSp (G : Gd) (m : Fn) : Sp := fun ws H Q E => ∃ R ss f, RpSs G R H ss ws f ∧ Wf R H f ∧ OutF G R H f ws Q E (m ss)
@[simp] def finF (m : Fn) (as : List Arg) (e : Env) : Res (Arg × Env) := match takeA as e with
  | none => .bad
  | some t => match m t.1 with
    | .ok r => .ok (.v r.1, putA as r.2 t.2)
    | .exc x oo => .exc x (putA as oo t.2)
    | .bad => .bad
@[simp] def eOwn (m : Fn) (fa : Env → Res (List Arg × Env)) : Ex := fun env => (fa env).bind fun p => finF m p.1 p.2

section
variable {G : Gd} {Z : Zn} {W : WX} {R H : Hp} {ts : List Sv} {vs : List V} {env : Env} {σ : L2.St}
theorem EnvRp.tmp : ∀ {oo : Env} {ws : List V} {k : Fp}, EnvRp G R H oo (ws.map some) k → RpSs G R H (oo.filterMap id) ((oo.zip ws).filterMap fun p => p.1.map fun _ => p.2) k ∧ oo.length = ws.length
  | [], ws, k, ⟨e, z⟩ => by
    have : ws = [] := List.map_eq_nil_iff.mp e
    subst this
    exact ⟨⟨rfl, z⟩, rfl⟩
  | none :: oo, [], k, ⟨x, σr, e, r⟩ => nomatch e
  | none :: oo, w :: ws, k, ⟨x, σr, e, r⟩ => by
    obtain ⟨_, e2⟩ := List.cons.inj e
    subst e2
    obtain ⟨h1, h2⟩ := EnvRp.tmp r
    exact ⟨h1, by rw [List.length_cons, List.length_cons, h2]⟩
  | some s :: oo, [], k, ⟨v, σr, g, l, e, _⟩ => nomatch e
  | some s :: oo, w :: ws, k, ⟨v, σr, g, l, e, h, r, z⟩ => by
    obtain ⟨e1, e2⟩ := List.cons.inj e
    cases e1
    subst e2
    obtain ⟨h1, h2⟩ := EnvRp.tmp r
    exact ⟨⟨w, _, g, l, rfl, h, h1, z⟩, by rw [List.length_cons, List.length_cons, h2]⟩
theorem Cfg.left {ss : List Sv} {ws : List V} (hl : ss.length = ws.length) (c : Cfg G Z R H (ss ++ ts) (ws ++ vs) env σ) : Cfg G Z R H (ss ++ []) (ws ++ []) env σ := c.reord fun g h => by
  obtain ⟨k1, k2, h3, h4, z2⟩ := RpSs.split' hl h
  rw [List.append_nil, List.append_nil]
  exact ⟨k1, h3, fun b => by rw [z2]; omega⟩
theorem finF_ok {m : Fn} {as : List Arg} {ws : List V} {e : Env} {Q : VK} (c : ArgsC G Z R H as ws ts vs e σ) (h : Out G Z W ts vs σ Q (finF m as e)) : FSp G m ws H Q (WE W σ) := by
  obtain ⟨ss, tw, t, c⟩ := c
  unfold finF at h
  split at h
  · exact h.elim
  · rename_i p hp
    obtain ⟨out, e'⟩ := p
    obtain ⟨c1, l1⟩ := take_all t hp c
    obtain ⟨⟨ft, fe, h1, h2, w, tr⟩, pn⟩ := c1
    obtain ⟨g1, g2, k1, k2, z⟩ := RpSs.split' l1 h1
    refine ⟨R, out, g1, k1, w.less fun b => by have := z b; omega, ?_⟩
    have eq : ∀ b, g2 b + fe b + g1 b = ft b + fe b := fun b => by have := z b; omega
    have w1 : Wf R H (fun b => (g2 b + fe b) + g1 b) := w.same eq
    -- what goes on with what the call leaves
    have go : ∀ {R' H' : Hp} {k : Fp} {g : Fp} {s : List Sv} {v : List V} {oo : Env}, RpSs G R' H' s v g → EnvRp G R' H' oo (ws.map some) k → Wf R' H' (fun b => g b + k b) → Tr R H g1 R' H' (fun b => g b + k b) →
        Cfg G Z R' H' (oo.filterMap id ++ (s ++ ts)) ((oo.zip ws).filterMap (fun p => p.1.map fun _ => p.2) ++ (v ++ vs)) e' σ ∧ oo.length = ws.length := fun {R' H' k g s v oo} r1 r2 w' t' => by
      have hk : ∀ a o, g2 a + fe a ≠ 0 → H a = some o → H' a = some o := fun a o hn ha => t'.keep a o ha (by
        have : ft a + fe a ≤ 1 := w.one a
        have := z a
        omega)
      obtain ⟨q1, q2⟩ := r2.tmp
      have sum := RpSs.join (RpSs.join (k2.mono (H' := H') t'.rs fun a o hn => hk a o (by omega)) r1) q1
      refine ⟨⟨⟨_, fe, sum, h2.mono t'.rs fun a o hn => hk a o (by omega), ?_, ?_⟩, pn⟩, q2⟩
      · exact (w1.frame w' t').same fun b => by
          show k b + (g b + g2 b) + fe b = g2 b + fe b + (g b + k b)
          omega
      · refine (tr.trans ((Tr.refl.less fun b => Nat.le_of_eq (eq b)).trans (Tr.frame (g := fun b => g2 b + fe b) t'))).less fun b => ?_
        show k b + (g b + g2 b) + fe b ≤ g2 b + fe b + (g b + k b)
        omega
    simp only at h
    revert h
    cases hm : m out with
    | bad => exact fun h => h.elim
    | ok r =>
      obtain ⟨s, oo⟩ := r
      intro h v R' H' g k r1 r2 w' t'
      obtain ⟨c2, l2⟩ := go (s := [s]) (v := [v]) ⟨v, [], g, fun _ => 0, rfl, r1, ⟨rfl, fun _ => rfl⟩, fun b => rfl⟩ r2 w' t'
      exact h v R' H' (put_all t l2 (ts := s :: ts) (vs := v :: vs) c2)
    | exc x oo =>
      intro h c d R' H' k hx r2 w' t'
      obtain ⟨c2, l2⟩ := go (s := []) (v := []) ⟨rfl, fun _ => rfl⟩ r2 (w'.same fun b => Nat.zero_add _) (t'.less fun b => by omega)
      have q3 : ∀ (x : Option Sv × V), True := fun _ => trivial
      have hl : (oo.filterMap id).length = ((oo.zip ws).filterMap fun p => p.1.map fun _ => p.2).length := r2.tmp.1.len
      exact h c d R' H' hx (put_all t l2 (ts := []) (vs := []) (c2.left hl))
end
section
variable {C : Str → Addr} {X : Cx} {W : WX} {e : Expr} {es : List Expr} {fA : Env → Res (List Arg × Env)} {x : Str} {p pos : Pos}
theorem ve_own {m : Fn} {k : Nat} {f : Addr} {fd : FuncData} {ps : List Str} (F : FnOk X.prog X.w X.K X.mg X.base (CX X.prog X.w) k f fd ps (FSp (gd X C) m)) (hr : Room k X.A) (hg : Gl X x) (hm : X.mg x = some (.ref f)) (hk : PySem.W.keepIn X.K (.ref f) = true) (hb : Binds X.K fd ps []) (tk : Takes X W)
    (ha : VA C X W (e :: es) fA) (hdb : (x == ("__debug__" : Str)) = false := by decide) (he : starEach (e :: es) X.env = (false, eval e X.env) :: starEach es X.env := by rfl) (hpl : (backTo pos (starEach es X.env)).any (·.1) = false := by rfl) :
    VE C X W (.Call (.Name x p) (e :: es) [] pos) (eOwn m fA) := by
  refine ⟨fun Z => pe_imp (pe_callSD (E := WE W) F hr hg hm hk hb .nil (passAt tk) (ha.run Z) hdb he hpl) fun σ H Q h => ?_⟩
  refine AR.bind h fun R1 H1 ts vs as ws e c o => ?_
  rw [List.append_nil]
  exact finF_ok c o
end

/-! ### displays -/
@[simp] def allV : List Arg → Option (List Sv)
  | [] => some []
  | .v s :: as => (allV as).map fun r => s :: r
  | .r _ :: _ => none
@[simp] def eTup (fa : Env → Res (List Arg × Env)) : Ex := fun env => (fa env).bind fun p => match allV p.1 with
  | some ss => if ss.length ≤ 1000 then .ok (.v (.fz (.tup (frzs ss))), p.2) else .bad
  | none => .bad
@[simp] def eLst (fa : Env → Res (List Arg × Env)) : Ex := fun env => (fa env).bind fun p => match allV p.1 with
  | some ss => if ss.length ≤ 1000 then .ok (.v (.lst ss), p.2) else .bad
  | none => .bad
section
variable {G : Gd} {Z : Zn} {W : WX} {R H : Hp} {ts : List Sv} {vs : List V} {env : Env} {σ : L2.St}
theorem allV_tmp {as : List Arg} {ws : List V} {ss : List Sv} {tw : List V} (t : Tmp σ as ws ss tw) {out : List Sv} (h : allV as = some out) : out = ss ∧ tw = ws := by
  induction t generalizing out with
  | nil => cases h; exact ⟨rfl, rfl⟩
  | @v as ws ss tw s w t ih =>
    simp only [allV] at h
    cases q : allV as with
    | none => rw [q] at h; cases h
    | some r =>
      rw [q] at h
      cases h
      obtain ⟨e1, e2⟩ := ih q
      exact ⟨by rw [e1], by rw [e2]⟩
  | r _ _ _ => cases h
/-- all of them are frozen -/
theorem Cfg.freezeAll : ∀ {ss : List Sv} {ws : List V} {ts : List Sv} {vs : List V} {R : Hp}, ss.length = ws.length → Cfg G Z R H (ss ++ ts) (ws ++ vs) env σ → ∃ R', Same R R' ∧ RpDs G R' (frzs ss) ws ∧ Cfg G Z R' H ts vs env σ
  | [], [], ts, vs, R, _, c => ⟨R, Same.refl R, rfl, c⟩
  | [], _ :: _, _, _, _, hl, _ => nomatch hl
  | _ :: _, [], _, _, _, hl, _ => nomatch hl
  | s :: ss, w :: ws, ts, vs, R, hl, c => by
    obtain ⟨R1, e1, c1⟩ := Cfg.freeze c
    obtain ⟨R2, e2, r2, c2⟩ := Cfg.freezeAll (by simpa using hl) c1.pop
    exact ⟨R2, e1.trans e2, ⟨w, ws, rfl, c1.top.mono e2, r2⟩, c2⟩
theorem frzs_len : ∀ ss : List Sv, (frzs ss).length = ss.length
  | [] => rfl
  | _ :: ss => by show (frzs ss).length + 1 = ss.length + 1; rw [frzs_len ss]
end
section
variable {C : Str → Addr} {X : Cx} {W : WX} {es : List Expr} {fA : Env → Res (List Arg × Env)} {pos : Pos}
theorem le_size {n : Nat} (h : n ≤ 1000) : n ≤ sizeLine := Nat.le_trans h (by decide)
theorem ve_tup {x1} (ha : VA C X W es fA) : VE C X W (.Tuple es x1 pos) (eTup fA) := by
  refine ⟨fun Z => pe_imp (pe_tup (ha.run Z)) fun σ H Q h => ?_⟩
  refine AR.bind (k := fun p => match allV p.1 with
    | some ss => if ss.length ≤ 1000 then .ok (.v (.fz (.tup (frzs ss))), p.2) else .bad
    | none => .bad) h fun R1 H1 ts vs as ws e c o => ?_
  obtain ⟨ss, tw, t, c⟩ := c
  simp only at o
  split at o
  · rename_i out hq
    obtain ⟨e1, e2⟩ := allV_tmp t hq
    subst e1 e2
    have hl : out.length = tw.length := t.len
    split at o
    · rename_i hs
      refine ⟨by rw [← hl]; exact le_size hs, fun p hp => ?_⟩
      obtain ⟨R2, e3, r3, c3⟩ := c.freezeAll hl
      obtain ⟨c4, e4⟩ := c3.grow (.tup tw) hp
      exact o _ _ _ (c4.push ⟨p, tw, rfl, .inl (.inl upd_same), r3.mono e4⟩)
    · exact o.elim
  · exact o.elim
theorem ve_lst (ha : VA C X W es fA) : VE C X W (.List es pos) (eLst fA) := by
  refine ⟨fun Z => pe_imp (pe_lst (ha.run Z)) fun σ H Q h => ?_⟩
  refine AR.bind (k := fun p => match allV p.1 with
    | some ss => if ss.length ≤ 1000 then .ok (.v (.lst ss), p.2) else .bad
    | none => .bad) h fun R1 H1 ts vs as ws e c o => ?_
  obtain ⟨ss, tw, t, c⟩ := c
  simp only at o
  split at o
  · rename_i out hq
    obtain ⟨e1, e2⟩ := allV_tmp t hq
    subst e1 e2
    have hl : out.length = tw.length := t.len
    split at o
    · rename_i hs
      exact ⟨by rw [← hl]; exact le_size hs, fun p hp => o _ _ _ (c.newLst hl hp)⟩
    · exact o.elim
  · exact o.elim
/-- a value that is frozen at once -/
@[simp] def eFz (f : Ex) : Ex := fun env => (f env).bind fun p => match p.1 with
  | .v s => .ok (.v (.fz s.frz), p.2)
  | .r _ => .bad
theorem ve_fz {e : Expr} {f : Ex} (h : VE C X W e f) : VE C X W e (eFz f) := by
  refine ⟨fun Z => pe_imp (h.run Z) fun σ H Q h => ?_⟩
  refine h.bind (k := fun p => match p.1 with
    | .v s => .ok (.v (.fz s.frz), p.2)
    | .r _ => .bad) fun R1 H1 ts vs a v e c o => ?_
  cases a with
  | r i => exact o.elim
  | v s =>
    obtain ⟨R2, e2, c2⟩ := Cfg.freeze c
    exact o v R2 H1 c2
end

/-! ### truth -/
@[simp] def truthS : Sv → Option Bool
  | .fz .non => some false
  | .fz (.bl b) => some b
  | .fz (.int i) => some (i != 0)
  | .fz (.str x) => if x.length ≤ sizeLine then some (x.length != 0) else none
  | .fz (.tup ds) => some !ds.isEmpty
  | .fz (.lst ds) => some !ds.isEmpty
  | .lst ss => some !ss.isEmpty
  | _ => none
@[simp] def truthA (a : Arg) (e : Env) : Option Bool := match a with
  | .v s => truthS s
  | .r i => match e[i]? with
    | some (some s) => truthS s
    | _ => none
abbrev Tx := Env → Res (Bool × Env)
@[simp] def tOf (f : Ex) : Tx := fun env => (f env).bind fun p => match truthA p.1 p.2 with
  | some b => .ok (b, p.2)
  | none => .bad
@[simp] def tAndX (f g : Tx) : Tx := fun env => (f env).bind fun p => if p.1 then g p.2 else .ok (false, p.2)
@[simp] def tOrX (f g : Tx) : Tx := fun env => (f env).bind fun p => if p.1 then .ok (true, p.2) else g p.2
@[simp] def tNotX (f : Tx) : Tx := fun env => (f env).bind fun p => .ok (!p.1, p.2)
@[simp] def eNot (f : Ex) : Ex := fun env => (f env).bind fun p => match truthA p.1 p.2 with
  | some b => .ok (.v (.fz (.bl !b)), p.2)
  | none => .bad
@[simp] def eIf (t : Tx) (f g : Ex) : Ex := fun env => (t env).bind fun p => if p.1 then f p.2 else g p.2
@[simp] def eAnd (f g : Ex) : Ex := fun env => (f env).bind fun p => match p.1 with
  | .v (.fz (.bl b)) => if b then g p.2 else .ok (.v (.fz (.bl false)), p.2)
  | _ => .bad
@[simp] def eOr (f g : Ex) : Ex := fun env => (f env).bind fun p => match p.1 with
  | .v (.fz (.bl b)) => if b then .ok (.v (.fz (.bl true)), p.2) else g p.2
  | _ => .bad
section
variable {C : Str → Addr} {X : Cx} {W : WX}
theorem RpDs.len {G : Gd} {R : Hp} : ∀ {ds : List Dt} {vs : List V}, RpDs G R ds vs → ds.length = vs.length
  | [], _, h => by rw [h]; rfl
  | _ :: _, _, ⟨v, vr, e, _, r⟩ => by rw [e, List.length_cons, List.length_cons, RpDs.len r]
theorem empty_len {α β : Type} {xs : List α} {ys : List β} (h : xs.length = ys.length) : xs.isEmpty = ys.isEmpty := by
  cases xs <;> cases ys <;> first | rfl | cases h
theorem Cfg.truth {Z : Zn} {R H : Hp} {s : Sv} {v : V} {ts : List Sv} {vs : List V} {env : Env} {σ : L2.St} {b : Bool} (c : Cfg (gd X C) Z R H (s :: ts) (v :: vs) env σ) (h : truthS s = some b) : TruV X.K v H b := by
  have sub := c.wf
  obtain ⟨f, r⟩ := c.topS
  cases s with
  | lst ss =>
    obtain ⟨a, ws, g, rfl, ha, hs, _⟩ := r
    cases h
    exact .inl ⟨ws, .inl (.inl ha), by rw [empty_len hs.len]⟩
  | ins c ns ss => cases h
  | fz d =>
    obtain ⟨r, _⟩ := r
    cases d with
    | non => cases r; cases h; rfl
    | bl k => cases r; cases h; rfl
    | int i => cases r; cases h; rfl
    | str x =>
      cases r
      simp only [truthS] at h
      split at h
      · rename_i hx
        cases h
        refine ⟨hx, ?_⟩
        by_cases q : x.length = 0
        · rw [q]; rfl
        · have q1 : (x.length != 0) = true := bne_iff_ne.mpr q
          have q2 : ((x.length : Int) != 0) = true := bne_iff_ne.mpr (by omega)
          rw [q1, q2]
      · cases h
    | tup ds =>
      obtain ⟨a, ws, rfl, ha, hs⟩ := r
      cases h
      exact .inr (.inl ⟨ws, sqT_mono sub ha, by rw [empty_len hs.len]⟩)
    | lst ds =>
      obtain ⟨a, ws, rfl, ha, hs⟩ := r
      cases h
      exact .inl ⟨ws, sub.seq ha, by rw [empty_len hs.len]⟩
    | obj c ns ds => cases h
theorem ArgC.truth {Z : Zn} {R H : Hp} {a : Arg} {v : V} {ts : List Sv} {vs : List V} {env : Env} {σ : L2.St} {b : Bool} (c : ArgC (gd X C) Z R H a v ts vs env σ) (h : truthA a env = some b) : TruV X.K v H b := by
  cases a with
  | v s => exact Cfg.truth c h
  | r i =>
    obtain ⟨hv, c⟩ := c
    unfold truthA at h
    simp only at h
    split at h
    · rename_i s hs
      obtain ⟨v', hv', c'⟩ := c.take hs
      rw [hv] at hv'
      cases hv'
      exact c'.truth h
    · cases h
theorem ArgC.drop {G : Gd} {Z : Zn} {R H : Hp} {a : Arg} {v : V} {ts : List Sv} {vs : List V} {env : Env} {σ : L2.St} (c : ArgC G Z R H a v ts vs env σ) : Cfg G Z R H ts vs env σ := by
  cases a with
  | v s => exact Cfg.pop c
  | r i => exact c.2
variable {a b : Expr} {f g : Ex} {pos : Pos} {tf tg : Tx}
theorem vt_of (h : VE C X W a f) (hi : ∀ (whole : Sem Value), isTrue a X.env whole = (do let v ← whole; standAt a.pos; holding [v] (truthy v)) := by intro _; rfl) : VT C X W a (tOf f) := by
  refine ⟨fun Z => pt_imp (pt_truth (h.run Z) hi) fun σ H Q h => ?_⟩
  obtain ⟨R, ts, vs, env, c, o⟩ := h
  refine ⟨R, ts, vs, env, c, ?_⟩
  unfold tOf at o
  revert o
  generalize f env = r
  intro o
  match r, o with
  | .exc x e, o => exact o
  | .ok (a, e), o =>
    intro v R' H' c'
    simp only [Res.bind] at o
    split at o
    · rename_i k hk
      exact ⟨k, c'.truth hk, o R' H' c'.drop⟩
    · exact o.elim
theorem TTR.bind {G : Gd} {Z : Zn} {f : Tx} {k : Bool × Env → Res (Bool × Env)} {σ : L2.St} {H : Hp} {Q Q' : Bool → Hp → Prop} (h : TTR G Z W (fun env => (f env).bind k) σ H Q)
    (i : ∀ R1 H1 ts vs b e, Cfg G Z R1 H1 ts vs e σ → OutT G Z W ts vs σ Q (k (b, e)) → Q' b H1) : TTR G Z W f σ H Q' := by
  obtain ⟨R, ts, vs, env, c, h⟩ := h
  refine ⟨R, ts, vs, env, c, ?_⟩
  revert h
  show OutT G Z W ts vs σ Q ((f env).bind k) → _
  generalize f env = r
  intro h
  match r, h with
  | .ok (a, e), h => exact fun R' H' x => i _ _ _ _ _ _ x h
  | .exc x e, h => exact h
theorem TTR.bindE {G : Gd} {Z : Zn} {f : Tx} {k : Bool × Env → Res (Arg × Env)} {σ : L2.St} {H : Hp} {Q : VK} {Q' : Bool → Hp → Prop} (h : ER G Z W (fun env => (f env).bind k) σ H Q)
    (i : ∀ R1 H1 ts vs b e, Cfg G Z R1 H1 ts vs e σ → Out G Z W ts vs σ Q (k (b, e)) → Q' b H1) : TTR G Z W f σ H Q' := by
  obtain ⟨R, ts, vs, env, c, h⟩ := h
  refine ⟨R, ts, vs, env, c, ?_⟩
  revert h
  show Out G Z W ts vs σ Q ((f env).bind k) → _
  generalize f env = r
  intro h
  match r, h with
  | .ok (a, e), h => exact fun R' H' x => i _ _ _ _ _ _ x h
  | .exc x e, h => exact h
theorem vt_not (h : VT C X W a tf) : VT C X W (.UnaryOp .Not a pos) (tNotX tf) :=
  ⟨fun Z => pt_imp (pt_not (h.run Z)) fun σ H Q h => TTR.bind h fun R1 H1 ts vs b e c o => o R1 H1 c⟩
theorem VW.vt (h : VW C X W a tf) : VT C X W a tf := ⟨fun Z => (h.run Z).pt⟩
variable {rest : List Expr}
theorem vw_and1 (h : VT C X W a tf) : VW C X W (.BoolOp .And [a] pos) tf := ⟨fun Z => pw_and1 (h.run Z)⟩
theorem vw_or1 (h : VT C X W a tf) : VW C X W (.BoolOp .Or [a] pos) tf := ⟨fun Z => pw_or1 (h.run Z)⟩
theorem vw_and (h : VT C X W a tf) (h2 : VW C X W (.BoolOp .And (b :: rest) pos) tg) : VW C X W (.BoolOp .And (a :: b :: rest) pos) (tAndX tf tg) :=
  ⟨fun Z => pw_imp (pw_and (h.run Z) (h2.run Z)) fun σ H Q h => TTR.bind h fun R1 H1 ts vs b e c o => by
    cases b with
    | true => exact ⟨R1, ts, vs, e, c, o⟩
    | false => exact o R1 H1 c⟩
theorem vw_or (h : VT C X W a tf) (h2 : VW C X W (.BoolOp .Or (b :: rest) pos) tg) : VW C X W (.BoolOp .Or (a :: b :: rest) pos) (tOrX tf tg) :=
  ⟨fun Z => pw_imp (pw_or (h.run Z) (h2.run Z)) fun σ H Q h => TTR.bind h fun R1 H1 ts vs b e c o => by
    cases b with
    | false => exact ⟨R1, ts, vs, e, c, o⟩
    | true => exact o R1 H1 c⟩
theorem ve_not (h : VE C X W a f) : VE C X W (.UnaryOp .Not a pos) (eNot f) := by
  refine ⟨fun Z => pe_imp (pe_notT (h.run Z)) fun σ H Q h => ?_⟩
  refine h.bind (k := fun p => match truthA p.1 p.2 with
    | some b => .ok (.v (.fz (.bl !b)), p.2)
    | none => .bad) fun R1 H1 ts vs a v e c o => ?_
  simp only at o
  split at o
  · rename_i k hk
    exact ⟨k, c.truth hk, o _ R1 H1 (c.drop.push rfl)⟩
  · exact o.elim
theorem ve_if {t : Expr} (ht : VT C X W t tf) (h1 : VE C X W a f) (h2 : VE C X W b g) : VE C X W (.IfExp t a b pos) (eIf tf f g) :=
  ⟨fun Z => pe_imp (pe_ifExp (ht.run Z) (h1.run Z) (h2.run Z)) fun σ H Q h => TTR.bindE h fun R1 H1 ts vs b e c o => by
    cases b with
    | true => exact ⟨R1, ts, vs, e, c, o⟩
    | false => exact ⟨R1, ts, vs, e, c, o⟩⟩
theorem ve_one {op} (h : VE C X W a f) : VE C X W (.BoolOp op [a] pos) f := ⟨fun Z => pe_one (h.run Z)⟩
theorem ve_and (h1 : VE C X W a f) (h2 : VE C X W (.BoolOp .And (b :: rest) pos) g) : VE C X W (.BoolOp .And (a :: b :: rest) pos) (eAnd f g) := by
  refine ⟨fun Z => pe_imp (pe_and (h1.run Z) (h2.run Z)) fun σ H Q h => ?_⟩
  refine h.bind (k := fun p => match p.1 with
    | .v (.fz (.bl b)) => if b then g p.2 else .ok (.v (.fz (.bl false)), p.2)
    | _ => .bad) fun R1 H1 ts vs a v e c o => ?_
  simp only at o
  split at o
  · rename_i k
    have := Cfg.top c
    cases this
    refine ⟨k, rfl, ?_⟩
    cases k with
    | true => exact ⟨R1, ts, vs, e, Cfg.pop c, o⟩
    | false => exact o _ R1 H1 ((Cfg.pop c).push rfl)
  · exact o.elim
theorem ve_or (h1 : VE C X W a f) (h2 : VE C X W (.BoolOp .Or (b :: rest) pos) g) : VE C X W (.BoolOp .Or (a :: b :: rest) pos) (eOr f g) := by
  refine ⟨fun Z => pe_imp (pe_or (h1.run Z) (h2.run Z)) fun σ H Q h => ?_⟩
  refine h.bind (k := fun p => match p.1 with
    | .v (.fz (.bl b)) => if b then .ok (.v (.fz (.bl true)), p.2) else g p.2
    | _ => .bad) fun R1 H1 ts vs a v e c o => ?_
  simp only at o
  split at o
  · rename_i k
    have := Cfg.top c
    cases this
    refine ⟨k, rfl, ?_⟩
    cases k with
    | false => exact ⟨R1, ts, vs, e, Cfg.pop c, o⟩
    | true => exact o _ R1 H1 ((Cfg.pop c).push rfl)
  · exact o.elim
end
end Fw
set_option Elab.async false
set_option linter.all false
set_option maxRecDepth 100000
set_option maxHeartbeats 1000000
/-! Statements, targets, what is walked, for, while, a def's body. -/
namespace Fw
open PySem PySem.Spec PyProof.Rows L2

@[simp] def ofE (r : Res (Arg × Env)) (k : Arg → Env → SRes) : SRes := match r with
  | .ok p => k p.1 p.2
  | .exc x e => .exc x e
  | .bad => .bad
@[simp] def sSeq (a b : Stx) : Stx := fun env => match a env with
  | .next e => b e
  | .ret s e => .ret s e
  | .brk e => .brk e
  | .cnt e => .cnt e
  | .exc x e => .exc x e
  | .bad => .bad
@[simp] def sNext : Stx := fun env => .next env
@[simp] def sBrk : Stx := fun env => .brk env
@[simp] def sCnt : Stx := fun env => .cnt env
@[simp] def sDrop (f : Ex) : Stx := fun env => ofE (f env) fun _ e => .next e
@[simp] def putS (i : Nat) (s : Sv) (e : Env) : SRes := if i < e.length then .next (e.set i (some s)) else .bad
@[simp] def sSet (i : Nat) (f : Ex) : Stx := fun env => ofE (f env) fun a e => match a with
  | .v s => putS i s e
  | .r _ => .bad
@[simp] def sRet (f : Ex) : Stx := fun env => ofE (f env) fun a e => match a with
  | .v s => .ret s e
  | .r _ => .bad
@[simp] def sRetN : Stx := fun env => .ret (.fz .non) env
@[simp] def sIf (t : Tx) (a b : Stx) : Stx := fun env => match t env with
  | .ok p => if p.1 then a p.2 else b p.2
  | .exc x e => .exc x e
  | .bad => .bad

section
variable {C : Str → Addr} {X : Cx} {W : WX} {P : List Bool}
theorem vb_nil : VB C X W P [] sNext := ⟨fun Z _ => pss_imp pss_nil fun D σ H ⟨R, env, c, o⟩ => o σ R H c⟩
theorem vs_pass {pos} : VS C X W P (.Pass pos) sNext := ⟨fun Z _ => ps_imp ps_pass fun D σ H ⟨R, env, c, o⟩ => o σ R H c⟩
theorem vs_break {pos} : VS C X W P (.Break pos) sBrk := ⟨fun Z _ => ps_imp ps_break fun D σ H ⟨R, env, c, o⟩ => o σ R H c⟩
theorem vs_continue {pos} : VS C X W P (.Continue pos) sCnt := ⟨fun Z _ => ps_imp ps_continue fun D σ H ⟨R, env, c, o⟩ => o σ R H c⟩
theorem vb_cons {st : Stmt} {rest : List Stmt} {a b : Stx} (h1 : VS C X W P st a) (h2 : VB C X W P rest b) : VB C X W P (st :: rest) (sSeq a b) := by
  refine ⟨fun Z pz => pss_imp (pss_cons (h1.run Z pz) (h2.run Z pz)) fun D σ H ⟨R, env, c, o⟩ => ⟨R, env, c, ?_⟩⟩
  unfold sSeq at o
  revert o
  generalize a env = r
  intro o
  match r, o with
  | .next e, o => exact fun σ' R' H' c' => ⟨R', e, c', o⟩
  | .ret s e, o => exact o
  | .brk e, o => exact o
  | .cnt e, o => exact o
  | .exc x e, o => exact o
theorem vb_one {st : Stmt} {a : Stx} (h1 : VS C X W P st a) : VB C X W P [st] a := ⟨fun Z pz => pss_one (h1.run Z pz)⟩
/-- from an expression's reading -/
theorem ofE_bind {Z : Zn} {f : Ex} {k : Arg → Env → SRes} {D : Ends} {σ : L2.St} {H : Hp} {Q : VK} (h : SR (gd X C) Z W (fun env => ofE (f env) k) D σ H)
    (i : ∀ R1 H1 a v e, ArgC (gd X C) Z R1 H1 a v [] [] e σ → OutS (gd X C) Z W D (k a e) → Q v H1) : ER (gd X C) Z W f σ H Q := by
  obtain ⟨R, env, c, o⟩ := h
  refine ⟨R, [], [], env, c, ?_⟩
  revert o
  show OutS (gd X C) Z W D (ofE (f env) k) → _
  generalize f env = r
  intro o
  match r, o with
  | .ok (a, e), o => exact fun v R' H' x => i _ _ _ _ _ x o
  | .exc x e, o => exact o σ
theorem vs_expr {e : Expr} {f : Ex} {pos : Pos} (he : VE C X W e f) (hs : swapsWith e none pos.line X.env = pure false := by rfl) : VS C X W P (.Expr e pos) (sDrop f) :=
  ⟨fun Z _ => ps_imp (ps_expr (he.run Z) hs) fun D σ H h => ofE_bind h fun R1 H1 a v e c o => o σ R1 H1 c.drop⟩
theorem vs_doc {x j pos pos'} : VS C X W P (.Expr (.Constant (.str x) j pos) pos') sNext := ⟨fun Z _ => ps_imp ps_doc fun D σ H ⟨R, env, c, o⟩ => o σ R H c⟩
theorem vs_ret {e : Expr} {f : Ex} {pos : Pos} (he : VE C X W e f) : VS C X W P (.Return (some e) pos) (sRet f) :=
  ⟨fun Z _ => ps_imp (ps_ret (he.run Z)) fun D σ H h => ofE_bind h fun R1 H1 a v e c o => by
    cases a with
    | v s => exact o σ v R1 H1 c
    | r i => exact o.elim⟩
theorem vs_retN {pos : Pos} : VS C X W P (.Return none pos) sRetN := ⟨fun Z _ => ps_imp ps_retN fun D σ H ⟨R, env, c, o⟩ => o σ .non R H (c.push (d := .non) rfl)⟩
theorem vs_if {t : Expr} {a b : List Stmt} {tf : Tx} {f g : Stx} {pos : Pos} (ht : VT C X W t tf) (ha : VB C X W P a f) (hb : VB C X W P b g) : VS C X W P (.If t a b pos) (sIf tf f g) := by
  refine ⟨fun Z pz => ps_imp (ps_if (ht.run Z) (ha.run Z pz) (hb.run Z pz)) fun D σ H ⟨R, env, c, o⟩ => ⟨R, [], [], env, c, ?_⟩⟩
  unfold sIf at o
  revert o
  generalize tf env = r
  intro o
  match r, o with
  | .ok (true, e), o => exact fun R' H' c' => ⟨R', e, c', o⟩
  | .ok (false, e), o => exact fun R' H' c' => ⟨R', e, c', o⟩
  | .exc x e, o => exact o σ
theorem putS_ok {Z : Zn} {R H : Hp} {i : Nat} {s : Sv} {v : V} {e : Env} {σ : L2.St} {D : Ends} (hp : Z.pin i = none) (c : Cfg (gd X C) Z R H [s] [v] e σ) (o : OutS (gd X C) Z W D (putS i s e)) : D.nx (σ.set i (some v)) H := by
  unfold putS at o
  split at o
  · rename_i hi
    exact o _ R H (c.store hi hp)
  · exact o.elim
theorem vs_set {i : Nat} {x : Str} {e : Expr} {f : Ex} {pos pos' : Pos} (hN : X.N.Nodup) (hi : X.N[i]? = some x) (hx : Loc X.env.scope x) (hP : P.getD i false = false) (he : VE C X W e f) (hs : swapsWith e (some (.Name x pos')) pos.line X.env = pure false := by rfl)
    (hf : X.fn x = true ∨ X.env.scope.names.lookup x = some .local := by first | exact .inl rfl | exact .inr rfl | assumption) : VS C X W P (.Assign [.Name x pos'] e pos) (sSet i f) :=
  ⟨fun Z pz => ps_imp (ps_set hN hi hx (he.run Z) hs hf) fun D σ H h => ofE_bind h fun R1 H1 a v e c o => by
    cases a with
    | v s => exact putS_ok (pz i hP) c o
    | r i => exact o.elim⟩

/-! ### targets -/
abbrev Tgt := Dt → Env → Option Env
@[simp] def gNm (i : Nat) : Tgt := fun d e => if i < e.length then some (e.set i (some (.fz d))) else none
@[simp] def gTs : List Tgt → List Dt → Env → Option Env
  | [], [], e => some e
  | g :: gs, d :: ds, e => (g d e).bind fun e1 => gTs gs ds e1
  | _, _, _ => none
@[simp] def gTp (gs : List Tgt) : Tgt := fun d e => match d with
  | .tup ds => gTs gs ds e
  | _ => none
/-- only slots of T are stored into -/
def Only (T : List Nat) (σ σ' : L2.St) : Prop := ∀ own : List Nat, (∀ i ∈ T, i ∈ own) → wipe σ' own = wipe σ own
theorem wipe_set {σ : L2.St} {i : Nat} {o : Option V} : ∀ {own : List Nat}, i ∈ own → wipe (σ.set i o) own = wipe σ own
  | [], h => nomatch h
  | j :: own, h => by
    unfold wipe
    by_cases e : i = j
    · subst e
      by_cases h' : i ∈ own
      · rw [wipe_set h']
      · have : ∀ own : List Nat, wipe (σ.set i o) own = (wipe σ own).set i ((wipe (σ.set i o) own)[i]?.getD none) := fun own => by
          apply List.ext_getElem?
          intro k
          by_cases e : i = k
          · subst e
            by_cases hk : i < σ.length
            · rw [List.getElem?_set_self (by rw [wipe_length]; exact hk)]
              have : i < (wipe (σ.set i o) own).length := by rw [wipe_length, List.length_set]; exact hk
              rw [List.getElem?_eq_getElem this]
              rfl
            · rw [List.getElem?_eq_none (by rw [wipe_length, List.length_set]; omega), List.getElem?_eq_none (by rw [List.length_set, wipe_length]; omega)]
          · rw [List.getElem?_set_ne e]
            clear h h'
            induction own with
            | nil => show (σ.set i o)[k]? = σ[k]?; rw [List.getElem?_set_ne e]
            | cons m own ih =>
              unfold wipe
              by_cases em : m = k
              · subst em
                by_cases hk : m < σ.length
                · rw [List.getElem?_set_self (by rw [wipe_length, List.length_set]; exact hk), List.getElem?_set_self (by rw [wipe_length]; exact hk)]
                · rw [List.getElem?_eq_none (by rw [List.length_set, wipe_length, List.length_set]; omega), List.getElem?_eq_none (by rw [List.length_set, wipe_length]; omega)]
              · rw [List.getElem?_set_ne em, List.getElem?_set_ne em, ih]
        rw [this own, List.set_set]
    · rw [wipe_set ((List.mem_cons.mp h).resolve_left e)]
def GR (G : Gd) (P : List Bool) (T : List Nat) (g : Tgt) : TG := fun v σ H Q => ∃ Z R d env ts vs, Pinned Z P ∧ Cfg G Z R H (.fz d :: ts) (v :: vs) env σ ∧ match g d env with
  | some e => ∀ σ', Cfg G Z R H ts vs e σ' → Only T σ σ' → Q σ' H
  | none => False
structure VG (C : Str → Addr) (X : Cx) (P : List Bool) (T : List Nat) (tg : Expr) (g : Tgt) : Prop where
  run : PG X tg (GR (gd X C) P T g)
def GRs (G : Gd) (P : List Bool) (T : List Nat) (gs : List Tgt) : TGs := fun xs σ H Q => ∃ Z R ds env ts vs, Pinned Z P ∧ Cfg G Z R H ts vs env σ ∧ RpDs G R ds xs ∧ match gTs gs ds env with
  | some e => ∀ σ', Cfg G Z R H ts vs e σ' → Only T σ σ' → Q σ' H
  | none => False
structure VGs (C : Str → Addr) (X : Cx) (P : List Bool) (T : List Nat) (tgs : List Expr) (gs : List Tgt) : Prop where
  run : PGs X tgs (GRs (gd X C) P T gs)
theorem pg_imp {tg : Expr} {t t' : TG} (h : PG X tg t) (i : ∀ v σ H Q, t' v σ H Q → t v σ H Q) : PG X tg t' := ⟨fun pins s σ H v u Q I r q => h.run pins s σ H v u Q I r (i _ _ _ _ q)⟩
theorem pgs_imp {tg : List Expr} {t t' : TGs} (h : PGs X tg t) (i : ∀ v σ H Q, t' v σ H Q → t v σ H Q) : PGs X tg t' := ⟨fun pins s σ H v u Q I r q => h.run pins s σ H v u Q I r (i _ _ _ _ q)⟩
theorem vg_name {i : Nat} {x : Str} {pos : Pos} (hN : X.N.Nodup) (hi : X.N[i]? = some x) (hx : Loc X.env.scope x) (hP : P.getD i false = false) (hf : X.fn x = true ∨ X.env.scope.names.lookup x = some .local := by first | exact .inl rfl | exact .inr rfl | assumption) : VG C X P [i] (.Name x pos) (gNm i) := by
  refine ⟨pg_imp (pg_name hN hi hx hf) fun v σ H Q ⟨Z, R, d, env, ts, vs, pz, c, o⟩ => ?_⟩
  unfold gNm at o
  split at o
  · rename_i e hq
    split at hq
    · rename_i hl
      cases hq
      exact o _ (c.store hl (pz i hP)) fun own h => wipe_set (h i List.mem_cons_self)
    · cases hq
  · exact o.elim
theorem vgs_nil : VGs C X P [] [] [] := by
  refine ⟨pgs_imp pgs_nil fun xs σ H Q ⟨Z, R, ds, env, ts, vs, pz, c, r, o⟩ => ?_⟩
  cases ds with
  | nil => exact ⟨r, o σ c fun _ _ => rfl⟩
  | cons d ds => exact o.elim
theorem vgs_cons {e : Expr} {es : List Expr} {g : Tgt} {gs : List Tgt} {T T' : List Nat} (h1 : VG C X P T e g) (h2 : VGs C X P T' es gs) (hs : (assignEach (e :: es) X.env).map (·.2) = assign e X.env :: (assignEach es X.env).map (·.2) := by rfl) : VGs C X P (T ++ T') (e :: es) (g :: gs) := by
  refine ⟨pgs_imp (pgs_cons h1.run h2.run hs) fun xs σ H Q ⟨Z, R, ds, env, ts, vs, pz, c, r, o⟩ => ?_⟩
  cases ds with
  | nil => exact o.elim
  | cons d ds =>
    obtain ⟨v, vr, e1, r1, r2⟩ := r
    refine ⟨v, vr, e1, Z, R, d, env, ts, vs, pz, c.push r1, ?_⟩
    simp only [gTs] at o
    cases hq : g d env with
    | none => rw [hq] at o; exact o.elim
    | some e2 =>
      rw [hq] at o
      refine fun σ' c' w' => ⟨Z, R, ds, e2, ts, vs, pz, c', r2, ?_⟩
      revert o
      show (match gTs gs ds e2 with | some e => _ | none => _) → _
      cases gTs gs ds e2 with
      | none => exact fun o => o
      | some e3 => exact fun o σ2 c2 w2 => o σ2 c2 fun own h => (w2 own fun i hi => h i (List.mem_append_right _ hi)).trans (w' own fun i hi => h i (List.mem_append_left _ hi))
theorem vg_tup {es : List Expr} {k : Nat} {pos : Pos} {gs : List Tgt} {T : List Nat} (hc : X.calm = true) (h : VGs C X P T es gs) (hn : (assignEach es X.env).length = gs.length := by rfl) (hst : (assignEach es X.env).findIdx? (·.1) = none := by rfl) : VG C X P T (.Tuple es k pos) (gTp gs) := by
  refine ⟨pg_imp (pg_tup hc h.run hn hst) fun v σ H Q ⟨Z, R, d, env, ts, vs, pz, c, o⟩ => ?_⟩
  cases d with
  | tup ds =>
    obtain ⟨a, xs, rfl, ha, r⟩ := c.top
    refine ⟨a, xs, rfl, sqT_mono c.wf ha, ?_, Z, R, ds, env, ts, vs, pz, c.pop, r, o⟩
    have hl : ∀ (gs : List Tgt) (ds : List Dt) (e : Env), gTs gs ds e ≠ none → ds.length = gs.length := by
      intro gs
      induction gs with
      | nil => intro ds e h; cases ds with
        | nil => rfl
        | cons _ _ => exact absurd rfl h
      | cons g gs ih => intro ds e h; cases ds with
        | nil => exact absurd rfl h
        | cons d ds =>
          rw [List.length_cons, List.length_cons]
          simp only [gTs] at h
          cases hq : g d e with
          | none => rw [hq] at h; exact absurd rfl h
          | some e1 => rw [hq] at h; rw [ih ds e1 h]
    rw [← r.len]
    refine hl gs ds env fun z => ?_
    have o : match gTs gs ds env with
      | some e => ∀ σ', Cfg (gd X C) Z R H ts vs e σ' → Only T σ σ' → Q σ' H
      | none => False := o
    rw [z] at o
    exact o.elim
  | _ => exact o.elim
/-- a, b = e -/
@[simp] def sUnp (g : Tgt) (f : Ex) : Stx := fun env => ofE (f env) fun a e => match a with
  | .v (.fz d) => match g d e with
    | some e1 => .next e1
    | none => .bad
  | _ => .bad
theorem vs_unp {tg e : Expr} {f : Ex} {g : Tgt} {T : List Nat} {pos : Pos} (he : VE C X W e f) (hg : VG C X P T tg g) (hs : swapsWithSole [tg] e pos.line X.env = pure false := by rfl) (hw : swappedStores [tg] e X.env = pure none := by rfl)
    (h1 : (assignEach [tg] X.env).map (·.2) = [assign tg X.env] := by rfl) : VS C X W P (.Assign [tg] e pos) (sUnp g f) :=
  ⟨fun Z pz => ps_imp (ps_asg (he.run Z) hg.run hs hw h1) fun D σ H h => ofE_bind h fun R1 H1 a v e c o => by
    cases a with
    | r i => exact o.elim
    | v s =>
      cases s with
      | lst ss => exact o.elim
      | ins _ _ _ => exact o.elim
      | fz d =>
        refine ⟨Z, R1, d, e, [], [], pz, c, ?_⟩
        simp only at o
        cases hq : g d e with
        | none => rw [hq] at o; exact o.elim
        | some e1 => rw [hq] at o; exact fun σ' c' _ => o σ' R1 H1 c'⟩
/-- a, b = x, y -/
@[simp] def sPar (i j : Nat) (fa : Env → Res (List Arg × Env)) : Stx := fun env => match fa env with
  | .ok p => match p.1 with
    | [.v s, .v s'] => if i < p.2.length ∧ j < p.2.length then .next ((p.2.set i (some s)).set j (some s')) else .bad
    | _ => .bad
  | .exc x e => .exc x e
  | .bad => .bad
theorem vs_par {i j : Nat} {x y : Str} {a b : Expr} {fa : Env → Res (List Arg × Env)} {px py pt pos : Pos} {kt k2 pt2} (hc : X.calm = true) (hN : X.N.Nodup) (hi : X.N[i]? = some x) (hj : X.N[j]? = some y) (hij : i ≠ j)
    (hx : X.env.scope.names.lookup x = some .local) (hy : X.env.scope.names.lookup y = some .local) (hPi : P.getD i false = false) (hPj : P.getD j false = false) (ha : VA C X W [a, b] fa)
    (hw : swappedStores [.Tuple [.Name x px, .Name y py] kt pt] (.Tuple [a, b] k2 pt2) X.env = pure (some [x, y]))
    (hs : swapsWithSole [.Tuple [.Name x px, .Name y py] kt pt] (.Tuple [a, b] k2 pt2) pos.line X.env = pure false := by rfl) :
    VS C X W P (.Assign [.Tuple [.Name x px, .Name y py] kt pt] (.Tuple [a, b] k2 pt2) pos) (sPar i j fa) := by
  refine ⟨fun Z pz => ps_imp (ps_par hc hN hi hj hij hx hy (ha.run Z) hw hs) fun D σ H ⟨R, env, c, o⟩ => ⟨R, [], [], env, c, ?_⟩⟩
  unfold sPar at o
  revert o
  generalize fa env = r
  intro o
  match r, o with
  | .exc x e, o => exact o σ
  | .ok (as, e), o =>
    rintro ws R' H' ⟨ss, tw, t, c'⟩
    simp only at o
    split at o
    · rename_i s s'
      split at o
      · rename_i hl
        cases t with
        | v t =>
          cases t with
          | v t =>
            cases t
            rename_i w w'
            refine ⟨w, w', rfl, o _ R' H' ?_⟩
            exact (Cfg.store (c'.store hl.1 (pz i hPi)) (by rw [List.length_set]; exact hl.2) (pz j hPj))
      · exact o.elim
    · exact o.elim
end
end Fw
set_option Elab.async false
set_option linter.all false
set_option maxRecDepth 100000
set_option maxHeartbeats 1000000
/-! What is walked; for, while; the body of a def. -/
namespace Fw
open PySem PySem.Spec PyProof.Rows L2

/-- the loop's own arguments stand as they stood -/
structure Kp (R0 H0 : Hp) (ss : List Sv) (ws : List V) (R H : Hp) : Prop where
  rs : Same R0 R
  sub : Same R H
  at_ : ∀ (k : Nat) l a, ss[k]? = some (.lst l) → ws[k]? = some (.ref a) → H a = H0 a
/-- the iterator J walks the items -/
structure Wk (G : Gd) (R0 H0 : Hp) (ss : List Sv) (ws : List V) (J : It) (items : List Dt) : Prop where
  go : ∀ i R H, Kp R0 H0 ss ws R H → i < items.length → J.go i H
  stop : ∀ i R H, Kp R0 H0 ss ws R H → items.length ≤ i → J.stop i H
  yld : ∀ i Z R H ts vs env σ x H', Kp R0 H0 ss ws R H → i < items.length → Cfg G Z R H ts vs env σ → J.yld i H x H' → ∃ R' d, items[i]? = some d ∧ Cfg G Z R' H' (.fz d :: ts) (x :: vs) env σ
abbrev Ax := Env → Res (List Arg × Env)
def IR (G : Gd) (Z : Zn) (W : WX) (fA : Ax) (gI : List Sv → Option (List Dt)) : TI := fun σ H Rk => ∃ R ts vs env, Cfg G Z R H ts vs env σ ∧ match fA env with
  | .ok p => match takeA p.1 p.2 with
    | some t => match gI t.1 with
      | some items => ∀ J ws ss tw R' H', Tmp σ p.1 ws ss tw → Cfg G Z R' H' (t.1 ++ ts) (ws ++ vs) t.2 σ → t.1.length = ws.length → Wk G R' H' t.1 ws J items → Rk J H'
      | none => False
    | none => False
  | .exc x e => ExW G Z W x e σ
  | .bad => False
structure VI (C : Str → Addr) (X : Cx) (W : WX) (tg iter : Expr) (fA : Ax) (gI : List Sv → Option (List Dt)) : Prop where
  run : ∀ Z, PI X tg iter (IR (gd X C) Z W fA gI)
theorem pi_imp {X : Cx} {tg it : Expr} {t t' : TI} (h : PI X tg it t) (i : ∀ σ H Q, t' σ H Q → t σ H Q) : PI X tg it t' := ⟨fun pins s σ H R I q => h.run pins s σ H R I (i _ _ _ q)⟩

/-! ### the loop -/
def forL (g : Tgt) (body : Stx) : List Dt → Env → SRes
  | [], e => .next e
  | d :: ds, e => match g d e with
    | none => .bad
    | some e1 => match body e1 with
      | .next e2 => forL g body ds e2
      | .cnt e2 => forL g body ds e2
      | .brk e2 => .next e2
      | .ret s e2 => .ret s e2
      | .exc x e2 => .exc x e2
      | .bad => .bad
@[simp] def mapEnv (f : Env → Env) : SRes → SRes
  | .next e => .next (f e)
  | .ret s e => .ret s (f e)
  | .brk e => .brk (f e)
  | .cnt e => .cnt (f e)
  | .exc x e => .exc x (f e)
  | .bad => .bad
@[simp] def refsIn (P : List Bool) (as : List Arg) : Bool := as.all fun a => match a with
  | .v _ => true
  | .r i => P.getD i false
@[simp] def sFor (fA : Ax) (gI : List Sv → Option (List Dt)) (P' : List Bool) (g : Tgt) (body : Stx) : Stx := fun env => match fA env with
  | .ok p => match takeA p.1 p.2 with
    | some t => match gI t.1 with
      | some items => if refsIn P' p.1 then mapEnv (putA p.1 (t.1.map some)) (forL g body items t.2) else .bad
      | none => .bad
    | none => .bad
  | .exc x e => .exc x e
  | .bad => .bad
def whileL (t : Tx) (body : Stx) : Nat → Env → SRes
  | 0, _ => .bad
  | n + 1, e => match t e with
    | .ok p => if p.1 then match body p.2 with
        | .next e2 => whileL t body n e2
        | .cnt e2 => whileL t body n e2
        | .brk e2 => .next e2
        | .ret s e2 => .ret s e2
        | .exc x e2 => .exc x e2
        | .bad => .bad
      else .next p.2
    | .exc x e2 => .exc x e2
    | .bad => .bad
def sWhile (n : Nat) (t : Tx) (body : Stx) : Stx := fun env => whileL t body n env

section
variable {G : Gd} {Z : Zn} {W : WX} {R H : Hp} {ts : List Sv} {vs : List V} {env : Env} {σ : L2.St}
theorem RpSs.root {R H : Hp} : ∀ {ss : List Sv} {ws : List V} {f : Fp} (k : Nat) {l : List Sv} {a : Addr}, RpSs G R H ss ws f → ss[k]? = some (.lst l) → ws[k]? = some (.ref a) → f a ≠ 0 ∧ ∃ o, H a = some o
  | [], _, _, k, _, _, _, h, _ => by simp at h
  | s :: ss, _, _, 0, l, a, ⟨v, vr, g, k, e, h, r, z⟩, hs, hw => by
    subst e
    have e1 : s = .lst l := Option.some.inj hs
    have e2 : v = .ref a := Option.some.inj hw
    subst e1 e2
    obtain ⟨a', ws, g', e3, ha, _, z'⟩ := h
    cases e3
    exact ⟨by rw [z, z', if_pos rfl]; omega, _, ha⟩
  | s :: ss, _, _, n + 1, l, a, ⟨v, vr, g, k, e, h, r, z⟩, hs, hw => by
    subst e
    obtain ⟨q1, q2⟩ := RpSs.root n r (by simpa using hs) (by simpa using hw)
    exact ⟨by rw [z]; omega, q2⟩
theorem Cfg.rebaseP (P' : Nat → Option V) (hP : ∀ j v, P' j = some v → σ[j]? = some (some v)) (hZ : ∀ j v, Z.pin j = some v → P' j = some v) (c : Cfg G Z R H ts vs env σ) : ∃ ft fe : Fp, RpSs G R H ts vs ft ∧ Cfg G ⟨R, H, fe, P'⟩ R H [] [] env σ ∧
    ∀ {R' H' ts' vs' env' σ'}, Cfg G ⟨R, H, fe, P'⟩ R' H' ts' vs' env' σ' → Cfg G Z R' H' (ts' ++ ts) (vs' ++ vs) env' σ' ∧ Same R R' ∧ ∀ a o, ft a ≠ 0 → H a = some o → H' a = some o := by
  obtain ⟨⟨ft, fe, h1, h2, w, t⟩, pn⟩ := c
  refine ⟨ft, fe, h1, ⟨⟨fun _ => 0, fe, ⟨rfl, fun _ => rfl⟩, h2, w.less fun b => by show 0 + fe b ≤ _; omega, Tr.refl.less fun b => by show 0 + fe b ≤ fe b; omega⟩, hP⟩, ?_⟩
  rintro R' H' ts' vs' env' σ' ⟨⟨ft', fe', k1, k2, w', t'⟩, pn'⟩
  have keep : ∀ a o, ft a ≠ 0 → H a = some o → H' a = some o := fun a o h e => t'.keep a o e (by
    have : ft a + fe a ≤ 1 := w.one a
    show fe a = 0
    omega)
  have eq : ∀ b, ft' b + ft b + fe' b = ft b + (ft' b + fe' b) := fun b => by omega
  refine ⟨⟨⟨fun b => ft' b + ft b, fe', RpSs.join (h1.mono t'.rs keep) k1, k2, (w.frame w' t').same eq, ((t.trans (Tr.frame (g := ft) t')).less fun b => Nat.le_of_eq (eq b))⟩, fun j v e => pn' j v (hZ j v e)⟩, t'.rs, keep⟩
theorem Tmp.move {as : List Arg} {ws : List V} {ss : List Sv} {tw : List V} {σ' : L2.St} (t : Tmp σ as ws ss tw) (h : ∀ i w, Arg.r i ∈ as → σ[i]? = some (some w) → σ'[i]? = some (some w)) : Tmp σ' as ws ss tw := by
  induction t with
  | nil => exact .nil
  | v t ih => exact .v (ih fun i w hm => h i w (List.mem_cons_of_mem _ hm))
  | r hi t ih => exact .r (h _ _ List.mem_cons_self hi) (ih fun i w hm => h i w (List.mem_cons_of_mem _ hm))
end

section
variable {C : Str → Addr} {X : Cx} {W : WX} {P P' : List Bool} {pos : Pos}
def SRe (G : Gd) (P : List Bool) (W : WX) (f : Stx) : TS := fun D σ H => ∃ Z, Pinned Z P ∧ SR G Z W f D σ H
theorem VB.any {st : List Stmt} {f : Stx} (h : VB C X W P st f) : PSs X st (SRe (gd X C) P W f) := ⟨fun pins s σ H D I ⟨Z, pz, q⟩ => (h.run Z pz).run pins s σ H D I q⟩
/-- pins of the slots that a body leaves alone -/
def pinOf (P' : List Bool) (σ : L2.St) : Nat → Option V := fun j => if P'.getD j false = true then (σ[j]?).getD none else none
theorem pinOf_ok {σ : L2.St} : ∀ j v, pinOf P' σ j = some v → σ[j]? = some (some v) := fun j v h => by
  unfold pinOf at h
  split at h
  · cases q : σ[j]? with
    | none => rw [q] at h; cases h
    | some o => rw [q] at h; have : o = some v := h; rw [this]
  · cases h
theorem pinOf_at {σ : L2.St} {j : Nat} {v : V} (h : P'.getD j false = true) (e : σ[j]? = some (some v)) : pinOf P' σ j = some v := by
  unfold pinOf
  rw [if_pos h, e]
  rfl
theorem pinOf_pinned {σ : L2.St} {R H : Hp} {f : Fp} : Pinned ⟨R, H, f, pinOf P' σ⟩ P' := fun j h => by
  show pinOf P' σ j = none
  unfold pinOf
  rw [if_neg (by rw [h]; exact Bool.false_ne_true)]
theorem refs_at {P' : List Bool} {as : List Arg} (h : refsIn P' as = true) {i : Nat} (hm : Arg.r i ∈ as) : P'.getD i false = true := List.all_eq_true.mp h _ hm
theorem vs_for {tg iter : Expr} {body : List Stmt} {fA : Ax} {gI : List Sv → Option (List Dt)} {g : Tgt} {T : List Nat} {fb : Stx} (hp : PassesOwn (model X.prog X.w) X.A X.env X.xe) (hc : X.calm = true) (hi : VI C X W tg iter fA gI) (hg : VG C X P' T tg g) (hb : VB C X W P' body fb)
    (hPP : ∀ j, P.getD j false = true → P'.getD j false = true) (hs : ∀ x, foldedSetIterable iter X.env x = pure x := by intro _; rfl) : VS C X W P (.For tg iter body [] pos) (sFor fA gI P' g fb) := by
  refine ⟨fun Z pz => ps_imp (ps_for hp hc (hi.run Z) hg.run hb.any hs) fun D σ H ⟨R, env, c, o⟩ => ⟨R, [], [], env, c, ?_⟩⟩
  unfold sFor at o
  revert o
  generalize fA env = r
  intro o
  match r, o with
  | .exc x e, o => exact o σ
  | .bad, o => exact o
  | .ok (as, e), o =>
    simp only at o ⊢
    cases ht : takeA as e with
    | none => rw [ht] at o; exact o
    | some t =>
      obtain ⟨ss, e1⟩ := t
      rw [ht] at o
      simp only at o ⊢
      cases hq : gI ss with
      | none => rw [hq] at o; exact o
      | some items =>
        rw [hq] at o
        simp only at o ⊢
        by_cases hr : refsIn P' as = true
        · rw [if_pos hr] at o
          intro J ws ss0 tw R1 H1 t1 c1 hl wk
          -- the body's own beginning
          have hZ : ∀ j v, Z.pin j = some v → pinOf P' σ j = some v := fun j v hj => pinOf_at (hPP j (by
            cases hq : P.getD j false with
            | true => rfl
            | false => rw [pz j hq] at hj; cases hj)) (c1.pin j v hj)
          obtain ⟨ft, fe, h1, c2, back⟩ := c1.rebaseP (pinOf P' σ) pinOf_ok hZ
          rw [List.append_nil, List.append_nil] at h1
          have kp : ∀ {R' H' ts' vs' env' σ'}, Cfg (gd X C) ⟨R1, H1, fe, pinOf P' σ⟩ R' H' ts' vs' env' σ' → Kp R1 H1 ss ws R' H' := fun {R' H' ts' vs' env' σ'} c' => by
            obtain ⟨c3, e3, k3⟩ := back c'
            refine ⟨e3, c'.wf, fun k l a hs hw => ?_⟩
            obtain ⟨q1, q2, q3⟩ := RpSs.root k h1 hs hw
            rw [k3 a q2 q1 q3, q3]
          have ret : ∀ {R' H' ts' vs' env' σ'}, Cfg (gd X C) ⟨R1, H1, fe, pinOf P' σ⟩ R' H' ts' vs' env' σ' → Cfg (gd X C) Z R' H' ts' vs' (putA as (ss.map some) env') σ' := fun {R' H' ts' vs' env' σ'} c' => by
            obtain ⟨c3, e3, k3⟩ := back c'
            have t2 : Tmp σ' as ws ss0 tw := t1.move fun i w hm hv => c'.pin i w (pinOf_at (refs_at hr hm) hv)
            rw [List.append_nil, List.append_nil] at c3
            obtain ⟨_, _, k1, _⟩ := c'.ex
            refine put_ok t2 hl (ts := ts') (vs := vs') (c3.reord fun g hg => ?_)
            obtain ⟨g1, g2, r1, r2, z⟩ := RpSs.split' k1.len hg
            refine ⟨_, RpSs.join r1 r2, fun b => ?_⟩
            have := z b
            show g2 b + g1 b ≤ g b
            omega
          refine ⟨fun i m σ' H' => m = items.length - i ∧ i ≤ items.length ∧ ∃ R' env', Cfg (gd X C) ⟨R1, H1, fe, pinOf P' σ⟩ R' H' [] [] env' σ' ∧ OutS (gd X C) Z W D (mapEnv (putA as (ss.map some)) (forL g fb (items.drop i) env')), ⟨items.length, by simp, Nat.zero_le _, R1, e1, c2, o⟩, ?_⟩
          rintro i m σ' H' ⟨rfl, hil, R', env', c', o'⟩
          by_cases hlt : i < items.length
          · refine .inr ⟨wk.go i R' H' (kp c') hlt, fun σ2 H2 => ∃ R2 env2, Cfg (gd X C) ⟨R1, H1, fe, pinOf P' σ⟩ R2 H2 [] [] env2 σ2 ∧ OutS (gd X C) Z W D (mapEnv (putA as (ss.map some)) (forL g fb (items.drop (i + 1)) env2)), fun σ2 H2 ⟨R2, env2, c4, o4⟩ => ⟨items.length - (i + 1), by omega, rfl, by omega, R2, env2, c4, o4⟩, fun x H2 hy => ?_⟩
            obtain ⟨R2, d, hd, c3⟩ := wk.yld i _ R' H' [] [] env' σ' x H2 (kp c') hlt c' hy
            rw [show items.drop i = d :: items.drop (i + 1) from by
              obtain ⟨_, e⟩ := List.getElem?_eq_some_iff.mp hd
              rw [← e]
              exact List.drop_eq_getElem_cons hlt] at o'
            simp only [forL] at o'
            refine ⟨_, R2, d, env', [], [], pinOf_pinned, c3, ?_⟩
            cases hgd : g d env' with
            | none => rw [hgd] at o'; exact o'
            | some e3 =>
              rw [hgd] at o'
              simp only at o' ⊢
              intro σ3 c4 _
              refine ⟨_, pinOf_pinned, R2, e3, c4, ?_⟩
              revert o'
              generalize fb e3 = rb
              intro o'
              match rb, o' with
              | .next e5, o' => exact fun σ5 R5 H5 c5 => ⟨R5, e5, c5, o'⟩
              | .cnt e5, o' => exact fun σ5 R5 H5 c5 => ⟨R5, e5, c5, o'⟩
              | .brk e5, o' => exact fun σ5 R5 H5 c5 => o' σ5 R5 H5 (ret c5)
              | .ret s e5, o' => exact fun σ5 v R5 H5 c5 => o' σ5 v R5 H5 (ret c5)
              | .exc x e5, o' => exact fun σ5 c d R5 H5 hx c5 => o' σ5 c d R5 H5 hx (ret c5)
          · have e : i = items.length := by omega
            subst e
            rw [List.drop_length] at o'
            exact .inl ⟨wk.stop _ R' H' (kp c') (Nat.le_refl _), o' σ' R' H' (ret c')⟩
        · rw [if_neg hr] at o
          exact o.elim
theorem VT.any {t : Expr} {tf : Tx} (h : VT C X W t tf) : PT X t fun σ H Q => ∃ Z, TTR (gd X C) Z W tf σ H Q := ⟨fun pins s σ H Q I ⟨Z, q⟩ => (h.run Z).run pins s σ H Q I q⟩
theorem vs_while {t : Expr} {body : List Stmt} {tf : Tx} {fb : Stx} (n : Nat) (hp : PassesOwn (model X.prog X.w) X.A X.env X.xe) (ht : VT C X W t tf) (hb : VB C X W P body fb) : VS C X W P (.While t body [] pos) (sWhile n tf fb) := by
  refine ⟨fun Z pz => ps_imp (ps_while hp (ht.run Z) (hb.run Z pz)) fun D σ H ⟨R, env, c, o⟩ => ?_⟩
  refine ⟨fun m σ' H' => ∃ R' env', Cfg (gd X C) Z R' H' [] [] env' σ' ∧ OutS (gd X C) Z W D (whileL tf fb m env'), ⟨n, R, env, c, o⟩, ?_⟩
  rintro m σ' H' ⟨R', env', c', o'⟩
  cases m with
  | zero => exact o'.elim
  | succ m =>
    refine ⟨R', [], [], env', c', ?_⟩
    simp only [whileL] at o'
    revert o'
    generalize tf env' = r
    intro o'
    match r, o' with
    | .exc x e, o' => exact o' σ'
    | .bad, o' => exact o'
    | .ok (false, e), o' => exact fun R2 H2 c2 => o' σ' R2 H2 c2
    | .ok (true, e), o' =>
      intro R2 H2 c2
      simp only [if_true] at o' ⊢
      refine ⟨fun σ3 H3 => ∃ R3 env3, Cfg (gd X C) Z R3 H3 [] [] env3 σ3 ∧ OutS (gd X C) Z W D (whileL tf fb m env3), fun σ3 H3 q => ⟨m, Nat.lt_succ_self m, q⟩, R2, e, c2, ?_⟩
      revert o'
      generalize fb e = rb
      intro o'
      match rb, o' with
      | .next e5, o' => exact fun σ5 R5 H5 c5 => ⟨R5, e5, c5, o'⟩
      | .cnt e5, o' => exact fun σ5 R5 H5 c5 => ⟨R5, e5, c5, o'⟩
      | .brk e5, o' => exact o'
      | .ret s e5, o' => exact o'
      | .exc x e5, o' => exact o'
end

/-! ### a def -/
@[simp] def maskE : List Bool → Env → Env
  | [], _ => []
  | b :: bs, [] => none :: maskE bs []
  | b :: bs, x :: e => (if b then x else none) :: maskE bs e
/-- a def of n names by its body: its parameters by P (false: stored into) -/
@[simp] def fnSem (n : Nat) (P : List Bool) (f : Stx) : Fn := fun ss => if ss.length = P.length then match f (ss.map some ++ List.replicate (n - ss.length) none) with
  | .next e => .ok (.fz .non, maskE P e)
  | .ret s e => .ok (s, maskE P e)
  | .exc x e => .exc x (maskE P e)
  | _ => .bad
  else .bad
section
variable {G : Gd} {R H : Hp}
theorem EnvRp.mask : ∀ {P : List Bool} {e : Env} {σ : L2.St} {f : Fp} {vs : List V}, EnvRp G R H e σ f → vs.length = P.length → (∀ (j : Nat) v, P[j]? = some true → vs[j]? = some v → σ[j]? = some (some v)) →
    ∃ k : Fp, EnvRp G R H (maskE P e) (vs.map some) k ∧ ∀ b, k b ≤ f b
  | [], e, σ, f, vs, h, hl, hv => by
    cases vs with
    | nil => exact ⟨fun _ => 0, ⟨rfl, fun _ => rfl⟩, fun b => Nat.zero_le _⟩
    | cons _ _ => cases hl
  | b :: bs, [], σ, f, vs, h, hl, hv => by
    cases vs with
    | nil => cases hl
    | cons v vs =>
      obtain ⟨e1, z⟩ := h
      subst e1
      obtain ⟨k, k1, k2⟩ := EnvRp.mask (P := bs) (e := []) (σ := []) (f := f) (vs := vs) ⟨rfl, z⟩ (by simpa using hl) (fun j v hj hv' => absurd (hv (j + 1) v (by simpa using hj) (by simpa using hv')) (by simp))
      exact ⟨k, ⟨some v, _, rfl, k1⟩, k2⟩
  | b :: bs, none :: e, σ, f, vs, h, hl, hv => by
    cases vs with
    | nil => cases hl
    | cons v vs =>
      obtain ⟨x, σr, e1, r⟩ := h
      subst e1
      obtain ⟨k, k1, k2⟩ := EnvRp.mask (P := bs) r (by simpa using hl) (fun j v hj hv' => by simpa using hv (j + 1) v (by simpa using hj) (by simpa using hv'))
      have : (if b = true then (none : Option Sv) else none) = none := by cases b <;> rfl
      exact ⟨k, by show EnvRp G R H ((if b = true then none else none) :: maskE bs e) _ k; rw [this]; exact ⟨some v, _, rfl, k1⟩, k2⟩
  | b :: bs, some s :: e, σ, f, vs, h, hl, hv => by
    cases vs with
    | nil => cases hl
    | cons v vs =>
      obtain ⟨v0, σr, g, k0, e1, hs, r, z⟩ := h
      subst e1
      obtain ⟨k, k1, k2⟩ := EnvRp.mask (P := bs) r (by simpa using hl) (fun j v hj hv' => by simpa using hv (j + 1) v (by simpa using hj) (by simpa using hv'))
      cases b with
      | false => exact ⟨k, ⟨some v, _, rfl, k1⟩, fun b => by have := k2 b; rw [z]; omega⟩
      | true =>
        have e2 : v0 = v := by
          have := hv 0 v rfl rfl
          exact Option.some.inj (Option.some.inj this)
        subst e2
        exact ⟨fun b => g b + k b, ⟨v0, _, g, k, rfl, hs, k1, fun _ => rfl⟩, fun b => by have := k2 b; show g b + k b ≤ f b; rw [z]; omega⟩
theorem EnvRp.start {n : Nat} : ∀ {ss : List Sv} {vs : List V} {f : Fp}, RpSs G R H ss vs f → EnvRp G R H (ss.map some ++ List.replicate n none) (vs.map some ++ List.replicate n none) f
  | [], vs, f, ⟨e, z⟩ => by
    subst e
    show EnvRp G R H (List.replicate n none) (List.replicate n none) f
    induction n with
    | zero => exact ⟨rfl, z⟩
    | succ n ih => exact ⟨none, _, rfl, ih⟩
  | s :: ss, _, _, ⟨v, vr, g, k, e, h, r, z⟩ => by
    subst e
    exact ⟨v, _, g, k, rfl, h, EnvRp.start r, z⟩
end
theorem fn_ok {C : Str → Addr} {P : Program} {w : World} {K : PySem.W.Frag} {mg : Str → Option Value} {base : Heap} {x qual : Str} {params : Arguments} {body : List Stmt} {scope : Scope} {kws : List (Str × V)} {dvs : List V} {f : Addr} {fd : FuncData} {N ps : List Str} {k : Nat} {pin : List Bool} {fb : Stx}
    (F : FunD K x qual params body scope dvs kws f fd) (S : FnScope N ps scope) (hl : pin.length = ps.length) (hN : ps.length ≤ N.length)
    (hb : ∀ (cdv : Value) (A : Around) (outer : List PySem.Env) (s : Shared) (H : Hp) (E : XK), Room k (A.deeper (envOfC qual scope s.heap.objs.size f cdv)) →
      VB C (cxOf (L2.CX P w) P w K mg base N qual scope f cdv A outer s H E) (fun c d _ H' => E c d H') pin body fb) :
    FnOk P w K mg base (L2.CX P w) (k + 1) f fd ps (FSp ⟨P, w, K, C⟩ (fnSem N.length pin fb)) := by
  refine F.ok S (fun vs H Q E h => ?_) fun cdv A outer s H vs Q E hr h => ?_
  · obtain ⟨R, ss, f, h1, _, h3⟩ := h
    unfold fnSem at h3
    split at h3
    · rename_i he
      rw [← h1.len, he, hl]
    · exact h3.elim
  · obtain ⟨R, ss, fp, h1, w1, h3⟩ := h
    unfold fnSem at h3
    split at h3
    · rename_i he
      have hvl : vs.length = pin.length := by rw [← h1.len, he]
      have q0 : EnvRp ⟨P, w, K, C⟩ R H (ss.map some ++ List.replicate (N.length - ss.length) none) (L2.start N vs) fp := by
        unfold L2.start
        rw [← h1.len]
        exact EnvRp.start h1
      refine ⟨_, (hb cdv A outer s H E hr).run ⟨R, H, fp, fun j => if pin.getD j false = true then vs[j]? else none⟩ (fun j hj => by
        show (if pin.getD j false = true then vs[j]? else none) = none
        rw [if_neg (by rw [hj]; exact Bool.false_ne_true)]), R, _, ⟨⟨fun _ => 0, fp, ⟨rfl, fun _ => rfl⟩, q0, w1.less fun b => by show 0 + fp b ≤ _; omega, Tr.refl.less fun b => by show 0 + fp b ≤ fp b; omega⟩, fun j v hj => ?_⟩, ?_⟩
      · have hj : (if pin.getD j false = true then vs[j]? else none) = some v := hj
        split at hj
        · show (vs.map some ++ List.replicate (N.length - vs.length) none)[j]? = some (some v)
          rw [List.getElem?_append_left (by rw [List.length_map]; exact (List.getElem?_eq_some_iff.mp hj).1), List.getElem?_map, hj]
          rfl
        · cases hj
      · revert h3
        generalize fb (ss.map some ++ List.replicate (N.length - ss.length) none) = r
        intro h3
        have pinned : ∀ {σ' : L2.St} {ts vs' e R' H'}, Cfg ⟨P, w, K, C⟩ ⟨R, H, fp, fun j => if pin.getD j false = true then vs[j]? else none⟩ R' H' ts vs' e σ' → ∀ (j : Nat) v, pin[j]? = some true → vs[j]? = some v → σ'[j]? = some (some v) := fun {σ' ts vs' e R' H'} c j v hj hv => by
          refine c.pin j v ?_
          show (if pin.getD j false = true then vs[j]? else none) = some v
          rw [List.getD_eq_getElem?_getD, hj]
          exact hv
        match r, h3 with
        | .next e, h3 =>
          intro σ' R' H' c
          have c0 := pinned c
          obtain ⟨⟨ft, fe, k1, k2, w', t'⟩, pn⟩ := c
          obtain ⟨_, z⟩ := k1
          obtain ⟨k, k3, k4⟩ := k2.mask hvl c0
          have le : ∀ b, 0 + k b ≤ ft b + fe b := fun b => by have := k4 b; omega
          exact h3 .non R' H' (fun _ => 0) k ⟨rfl, fun _ => rfl⟩ k3 (w'.less le) (t'.less le)
        | .ret s0 e, h3 =>
          intro σ' v R' H' c
          have c0 := pinned c
          obtain ⟨⟨ft, fe, ⟨v', vr, g, k', e1, q1, ⟨_, z2⟩, z⟩, k2, w', t'⟩, pn⟩ := c
          cases e1
          obtain ⟨k, k3, k4⟩ := k2.mask hvl c0
          have le : ∀ b, g b + k b ≤ ft b + fe b := fun b => by have := k4 b; have := z b; omega
          exact h3 v R' H' g k q1 k3 (w'.less le) (t'.less le)
        | .exc x e, h3 =>
          intro σ' c d R' H' hx cc
          have c0 := pinned cc
          obtain ⟨⟨ft, fe, k1, k2, w', t'⟩, pn⟩ := cc
          obtain ⟨k, k3, k4⟩ := k2.mask hvl c0
          have le : ∀ b, k b ≤ ft b + fe b := fun b => by have := k4 b; omega
          exact h3 c d R' H' k hx k3 (w'.less le) (t'.less le)
    · exact h3.elim
end Fw
set_option Elab.async false
set_option linter.all false
set_option maxRecDepth 100000
set_option maxHeartbeats 1000000
/-! List comprehensions with one and two clauses. -/
namespace Fw
open PySem PySem.Spec PyProof.Rows L2

@[simp] def wipeE (env : Env) : List Nat → Env
  | [] => env
  | v :: vs => (wipeE env vs).set v none
@[simp] def restE (e0 e : Env) : List Nat → Env
  | [] => e
  | i :: own => match e0[i]? with
    | some (some (.fz d)) => (restE e0 e own).set i (some (.fz d))
    | _ => restE e0 e own
def compL (g : Tgt) (t : Tx) (elt : Ex) (own : List Nat) : List Dt → Env → Res (List Sv × Env)
  | [], e => .ok ([], e)
  | d :: ds, e => match g d e with
    | none => .bad
    | some e1 => match t e1 with
      | .ok p => if p.1 then match elt p.2 with
          | .ok (.v s, e3) => (compL g t elt own ds (wipeE e3 own)).bind fun r => .ok (s :: r.1, r.2)
          | _ => .bad
        else compL g t elt own ds (wipeE p.2 own)
      | _ => .bad
@[simp] def refsOut (own : List Nat) (as : List Arg) : Bool := as.all fun a => match a with
  | .v _ => true
  | .r i => !own.contains i
@[simp] def eLc (fA : Ax) (gI : List Sv → Option (List Dt)) (own : List Nat) (g : Tgt) (t : Tx) (elt : Ex) : Ex := fun env => match fA env with
  | .ok p => match takeA p.1 p.2 with
    | some q => match gI q.1 with
      | some items => match compL g t elt own items (wipeE q.2 own) with
        | .ok r => if r.1.length ≤ sizeLine then .ok (.v (.lst r.1), putA p.1 (q.1.map some) (restE q.2 (wipeE r.2 own) own)) else .bad
        | _ => .bad
      | none => .bad
    | none => .bad
  | .exc x e => .exc x e
  | .bad => .bad
def compL2 (g : Tgt) (t : Tx) (fA1 : Ax) (gI1 : List Sv → Option (List Dt)) (g1 : Tgt) (t1 : Tx) (elt : Ex) (own vs1 : List Nat) : List Dt → Env → Res (List Sv × Env)
  | [], e => .ok ([], e)
  | d :: ds, e => match g d e with
    | none => .bad
    | some e1 => match t e1 with
      | .ok p => if p.1 then match fA1 p.2 with
          | .ok a => match takeA a.1 a.2 with
            | some q => match gI1 q.1 with
              | some items1 => match compL g1 t1 elt vs1 items1 (wipeE q.2 vs1) with
                | .ok r1 => (compL2 g t fA1 gI1 g1 t1 elt own vs1 ds (wipeE (putA a.1 (q.1.map some) (wipeE r1.2 vs1)) own)).bind fun r => .ok (r1.1 ++ r.1, r.2)
                | _ => .bad
              | none => .bad
            | none => .bad
          | _ => .bad
        else compL2 g t fA1 gI1 g1 t1 elt own vs1 ds (wipeE p.2 own)
      | _ => .bad
def eLc2 (fA : Ax) (gI : List Sv → Option (List Dt)) (own vs1 : List Nat) (g : Tgt) (t : Tx) (fA1 : Ax) (gI1 : List Sv → Option (List Dt)) (g1 : Tgt) (t1 : Tx) (elt : Ex) : Ex := fun env => match fA env with
  | .ok p => match takeA p.1 p.2 with
    | some q => match gI q.1 with
      | some items => match compL2 g t fA1 gI1 g1 t1 elt own vs1 items (wipeE q.2 own) with
        | .ok r => if r.1.length ≤ sizeLine then .ok (.v (.lst r.1), putA p.1 (q.1.map some) (restE q.2 (wipeE r.2 own) own)) else .bad
        | _ => .bad
      | none => .bad
    | none => .bad
  | .exc x e => .exc x e
  | .bad => .bad
@[simp] def tYesX : Tx := fun e => .ok (true, e)
abbrev Wno : WX := fun _ _ _ _ => False

section
variable {G : Gd} {Z : Zn} {W : WX} {R H : Hp} {ts : List Sv} {vs : List V} {env : Env} {σ : L2.St}
theorem wipe_wipe (σ : L2.St) (own : List Nat) : wipe (wipe σ own) own = wipe σ own := by
  have h : ∀ l : List Nat, (∀ i ∈ l, i ∈ own) → wipe (wipe σ l) own = wipe σ own := fun l => by
    induction l with
    | nil => intro _; rfl
    | cons i l ih => intro hm; show wipe ((wipe σ l).set i none) own = _; rw [wipe_set (hm i List.mem_cons_self)]; exact ih fun j hj => hm j (List.mem_cons_of_mem _ hj)
  exact h own fun _ h => h
theorem EnvRp.wipe1 : ∀ {env : Env} {σ : L2.St} {f : Fp} (i : Nat), EnvRp G R H env σ f → ∃ k : Fp, EnvRp G R H (env.set i none) (σ.set i none) k ∧ ∀ b, k b ≤ f b
  | [], σ, f, i, ⟨e, z⟩ => by subst e; exact ⟨f, ⟨rfl, z⟩, fun b => Nat.le_refl _⟩
  | none :: e, σ, f, 0, ⟨x, σr, q, r⟩ => by subst q; exact ⟨f, ⟨none, σr, rfl, r⟩, fun b => Nat.le_refl _⟩
  | some s :: e, σ, f, 0, ⟨v, σr, g, k, q, h, r, z⟩ => by subst q; exact ⟨k, ⟨none, σr, rfl, r⟩, fun b => by rw [z]; omega⟩
  | none :: e, σ, f, i + 1, ⟨x, σr, q, r⟩ => by
    subst q
    obtain ⟨k, k1, k2⟩ := EnvRp.wipe1 i r
    exact ⟨k, ⟨x, _, rfl, k1⟩, k2⟩
  | some s :: e, σ, f, i + 1, ⟨v, σr, g, k0, q, h, r, z⟩ => by
    subst q
    obtain ⟨k, k1, k2⟩ := EnvRp.wipe1 i r
    exact ⟨fun b => g b + k b, ⟨v, _, g, k, rfl, h, k1, fun _ => rfl⟩, fun b => by have := k2 b; show g b + k b ≤ f b; rw [z]; omega⟩
theorem EnvRp.wipe {env : Env} {σ : L2.St} {f : Fp} (h : EnvRp G R H env σ f) : ∀ own : List Nat, ∃ k : Fp, EnvRp G R H (wipeE env own) (L2.wipe σ own) k ∧ ∀ b, k b ≤ f b
  | [] => ⟨f, h, fun b => Nat.le_refl _⟩
  | i :: own => by
    obtain ⟨k, k1, k2⟩ := EnvRp.wipe h own
    obtain ⟨l, l1, l2⟩ := k1.wipe1 i
    exact ⟨l, l1, fun b => Nat.le_trans (l2 b) (k2 b)⟩
theorem Cfg.wipe (c : Cfg G Z R H ts vs env σ) (own : List Nat) (hp : ∀ j, Z.pin j = none) : Cfg G Z R H ts vs (wipeE env own) (L2.wipe σ own) := by
  obtain ⟨⟨ft, fe, h1, h2, w, t⟩, pn⟩ := c
  obtain ⟨k, k1, k2⟩ := h2.wipe own
  have le : ∀ b, ft b + k b ≤ ft b + fe b := fun b => by have := k2 b; omega
  exact ⟨⟨ft, k, h1, k1, w.less le, t.less le⟩, fun j v e => by rw [hp j] at e; cases e⟩
/-- only what the slots hold counts -/
theorem EnvRp.agree : ∀ {env : Env} {σ σ' : L2.St} {f : Fp}, EnvRp G R H env σ f → σ.length = σ'.length → (∀ (j : Nat), σ[j]? = σ'[j]? ∨ env[j]? = some none) → EnvRp G R H env σ' f
  | [], σ, σ', f, ⟨e, z⟩, hl, _ => by
    subst e
    cases σ' with
    | nil => exact ⟨rfl, z⟩
    | cons _ _ => cases hl
  | none :: e, σ, σ', f, ⟨x, σr, q, r⟩, hl, h => by
    subst q
    cases σ' with
    | nil => cases hl
    | cons y σ' => exact ⟨y, σ', rfl, EnvRp.agree r (by simpa using hl) fun j => by simpa using h (j + 1)⟩
  | some s :: e, σ, σ', f, ⟨v, σr, g, k, q, hs, r, z⟩, hl, h => by
    subst q
    cases σ' with
    | nil => cases hl
    | cons y σ' =>
      rcases h 0 with h0 | h0
      · have : y = some v := by simpa using h0.symm
        subst this
        exact ⟨v, σ', g, k, rfl, hs, EnvRp.agree r (by simpa using hl) fun j => by simpa using h (j + 1), z⟩
      · simp at h0
theorem wipeE_len (env : Env) : ∀ own : List Nat, (wipeE env own).length = env.length
  | [] => rfl
  | v :: vs => by unfold wipeE; rw [List.length_set, wipeE_len env vs]
theorem wipeE_at {env : Env} {j : Nat} : ∀ {own : List Nat}, j ∈ own → j < env.length → (wipeE env own)[j]? = some none
  | [], h, _ => nomatch h
  | v :: vs, h, hl => by
    unfold wipeE
    by_cases e : v = j
    · subst e; rw [List.getElem?_set_self (by rw [wipeE_len]; exact hl)]
    · rw [List.getElem?_set_ne e]
      exact wipeE_at ((List.mem_cons.mp h).resolve_left fun z => e z.symm) hl
/-- back to the slots as they stood -/
theorem Cfg.unwipe {own : List Nat} (c : Cfg G Z R H ts vs env (L2.wipe σ own)) (hp : ∀ j, Z.pin j = none) : Cfg G Z R H ts vs (wipeE env own) σ := by
  have c' := c.wipe own hp
  rw [wipe_wipe] at c'
  obtain ⟨⟨ft, fe, h1, h2, w, t⟩, pn⟩ := c'
  refine ⟨⟨ft, fe, h1, h2.agree (wipe_length σ own) fun j => ?_, w, t⟩, fun j v e => by rw [hp j] at e; cases e⟩
  by_cases hj : j ∈ own
  · by_cases hl : j < env.length
    · exact .inr (wipeE_at hj hl)
    · refine .inl ?_
      have e1 := c.len
      rw [wipe_length] at e1
      rw [List.getElem?_eq_none (by rw [wipe_length]; omega), List.getElem?_eq_none (by omega)]
  · exact .inl (wipe_out hj)
theorem Cfg.rest {e0 : Env} (h : ∀ (i : Nat) d, e0[i]? = some (some (.fz d)) → ∃ v, σ[i]? = some (some v) ∧ RpD G R d v) (c : Cfg G Z R H ts vs env σ) : ∀ own : List Nat, Cfg G Z R H ts vs (restE e0 env own) σ
  | [] => c
  | i :: own => by
    have ih := Cfg.rest h c own
    unfold restE
    split
    · rename_i d hd
      obtain ⟨v, hv, r⟩ := h i d hd
      exact (ih.push r).back hv
    · exact ih
/-- a new beginning; ts2 is kept aside -/
theorem Cfg.aside {ts1 ts2 : List Sv} {vs1 vs2 : List V} (hl : ts1.length = vs1.length) (c : Cfg G Z R H (ts1 ++ ts2) (vs1 ++ vs2) env σ) : ∃ ft fe : Fp, RpSs G R H ts2 vs2 ft ∧ Cfg G ⟨R, H, fe, fun _ => none⟩ R H ts1 vs1 env σ ∧
    ∀ {R' H' ts' vs' env' σ'}, Cfg G ⟨R, H, fe, fun _ => none⟩ R' H' ts' vs' env' σ' → Same R R' ∧ (∀ a o, ft a ≠ 0 → H a = some o → H' a = some o) ∧ ((∀ j v, Z.pin j = some v → σ'[j]? = some (some v)) → Cfg G Z R' H' (ts' ++ ts2) (vs' ++ vs2) env' σ') := by
  obtain ⟨⟨f12, fe, h12, h2, w, t⟩, pn⟩ := c
  obtain ⟨g1, ft, k1, k2, z⟩ := RpSs.split' hl h12
  have eq : ∀ b, ft b + (g1 b + fe b) = f12 b + fe b := fun b => by have := z b; omega
  have w1 : Wf R H (fun b => ft b + (g1 b + fe b)) := w.same eq
  refine ⟨ft, fun b => g1 b + fe b, k2, ⟨⟨g1, fe, k1, h2, w.less fun b => by have := z b; omega, Tr.refl⟩, fun j v e => nomatch e⟩, ?_⟩
  rintro R' H' ts' vs' env' σ' ⟨⟨ft', fe', q1, q2, w', t'⟩, pn'⟩
  have keep : ∀ a o, ft a ≠ 0 → H a = some o → H' a = some o := fun a o h e => t'.keep a o e (by
    have : f12 a + fe a ≤ 1 := w.one a
    have := z a
    show g1 a + fe a = 0
    omega)
  have eq2 : ∀ b, ft' b + ft b + fe' b = ft b + (ft' b + fe' b) := fun b => by omega
  refine ⟨t'.rs, keep, fun hp => ⟨⟨fun b => ft' b + ft b, fe', RpSs.join (k2.mono t'.rs keep) q1, q2, (w1.frame w' t').same eq2, ((t.trans ((Tr.refl.less fun b => Nat.le_of_eq (eq b)).trans (Tr.frame (g := ft) t'))).less fun b => Nat.le_of_eq (eq2 b))⟩, hp⟩⟩
theorem Kp.of {ss : List Sv} {ws : List V} {ts2 : List Sv} {vs2 : List V} {ft : Fp} (hl : ss.length = ws.length) (h : RpSs G R H (ss ++ ts2) (ws ++ vs2) ft) {R' H' : Hp} (e : Same R R') (sub : Same R' H') (k : ∀ a o, ft a ≠ 0 → H a = some o → H' a = some o) : Kp R H ss ws R' H' := by
  refine ⟨e, sub, fun n l a hs hw => ?_⟩
  have hs' : (ss ++ ts2)[n]? = some (.lst l) := by rw [List.getElem?_append_left (List.getElem?_eq_some_iff.mp hs).1]; exact hs
  have hw' : (ws ++ vs2)[n]? = some (.ref a) := by rw [List.getElem?_append_left (List.getElem?_eq_some_iff.mp hw).1]; exact hw
  obtain ⟨q1, q2, q3⟩ := RpSs.root n h hs' hw'
  rw [k a q2 q1 q3, q3]
/-- one more at the end of the new list -/
theorem Cfg.appD {D : Addr} {acc : List Sv} {s : Sv} {v : V} (c : Cfg G Z R H (s :: .lst acc :: ts) (v :: .ref D :: vs) env σ) : ∃ av, H D = some (.lst av) ∧ av.length = acc.length ∧ Cfg G Z R (upd H D (.lst (av ++ [v]))) (.lst (acc ++ [s]) :: ts) (.ref D :: vs) env σ := by
  obtain ⟨ws, h1, h2, h3⟩ := Cfg.write (es := [s]) (evs := [v]) rfl c
  refine ⟨ws, h1, h2, h3 [] [] (acc ++ [s]) (ws ++ [v]) fun H' g hr => ?_⟩
  obtain ⟨g1, g2, r1, r2, z⟩ := RpSs.split' rfl hr
  refine ⟨fun _ => 0, _, ⟨rfl, fun _ => rfl⟩, RpSs.join r1 r2, fun b => ?_⟩
  have := z b
  show 0 + (g2 b + g1 b) ≤ g b
  omega
end

section
variable {C : Str → Addr} {X : Cx} {W : WX}
structure VTs (C : Str → Addr) (X : Cx) (W : WX) (ifs : List Expr) (f : Tx) : Prop where
  run : ∀ Z, PTs X ifs (TTR (gd X C) Z W f)
theorem vts_nil : VTs C X W [] tYesX := ⟨fun Z => ⟨fun pins s σ H Q I ⟨R, ts, vs, env, c, o⟩ => pts_nil.run pins s σ H Q I (o R H c)⟩⟩
theorem vts_one {t : Expr} {f : Tx} (h : VT C X W t f) : VTs C X W [t] f := ⟨fun Z => pts_one (h.run Z)⟩
theorem VTs.any {t : List Expr} {tf : Tx} (h : VTs C X W t tf) : PTs X t fun σ H Q => ∃ Z, TTR (gd X C) Z W tf σ H Q := ⟨fun pins s σ H Q I ⟨Z, q⟩ => (h.run Z).run pins s σ H Q I q⟩
theorem VE.any {e : Expr} {f : Ex} (h : VE C X W e f) : PE X e fun σ H Q => ∃ Z, ER (gd X C) Z W f σ H Q := ⟨fun pins s σ H Q I ⟨Z, q⟩ => (h.run Z).run pins s σ H Q I q⟩
theorem VI.any {tg it : Expr} {fA : Ax} {gI : List Sv → Option (List Dt)} (h : VI C X W tg it fA gI) : PI X tg it fun σ H Q => ∃ Z, IR (gd X C) Z W fA gI σ H Q := ⟨fun pins s σ H R I ⟨Z, q⟩ => (h.run Z).run pins s σ H R I q⟩
theorem pinned_none {R H : Hp} {f : Fp} : Pinned ⟨R, H, f, fun _ => none⟩ [] := fun _ _ => rfl

/-- the turns of a comprehension's clause: from compL's answer to the new list -/
theorem compL_turns {G : Gd} {Z : Zn} {R0 H0 : Hp} {ss : List Sv} {ws : List V} {J : It} {items : List Dt} {g : Tgt} {t : Tx} {elt : Ex} {own T : List Nat} {σ : L2.St} {D : Addr} {Qend : Hp → Prop}
    (hT : ∀ i ∈ T, i ∈ own) (hZ : ∀ j, Z.pin j = none) (wk : Wk G R0 H0 ss ws J items) (kp : ∀ {R' H' ts' vs' env' σ'}, Cfg G Z R' H' ts' vs' env' σ' → Kp R0 H0 ss ws R' H')
    {e0 : Env} {r : List Sv × Env} {acc0 : List Sv} {R1 H1 : Hp} (hq : compL g t elt own items e0 = .ok r) (hz : (acc0 ++ r.1).length ≤ sizeLine) (c : Cfg G Z R1 H1 [.lst acc0] [.ref D] e0 (wipe σ own))
    (fin : ∀ R' H', Cfg G Z R' H' [.lst (acc0 ++ r.1)] [.ref D] r.2 (wipe σ own) → Qend H') :
    ∃ W' : Nat → Nat → Hp → Prop, (∃ m, W' 0 m H1) ∧ ∀ i m H, W' i m H →
      (J.stop i H ∧ Qend H) ∨ (J.go i H ∧ ∃ Nx : Hp → Prop, (∀ H', Nx H' → ∃ m', m' < m ∧ W' (i + 1) m' H') ∧ ∀ x H', J.yld i H x H' → GR G [] T g x (wipe σ own) H' fun σ2 H2 => wipe σ2 own = wipe σ own ∧ (∃ Z, TTR G Z Wno t σ2 H2 fun b H3 =>
        if b = true then ∃ Z, ER G Z Wno elt σ2 H3 fun y H4 => ∃ acc, H4 D = some (.lst acc) ∧ acc.length < sizeLine ∧ Nx (upd H4 D (.lst (acc ++ [y]))) else Nx H3)) := by
  refine ⟨fun i m H => m = items.length - i ∧ i ≤ items.length ∧ ∃ R e acc r', Cfg G Z R H [.lst acc] [.ref D] e (wipe σ own) ∧ compL g t elt own (items.drop i) e = .ok r' ∧ acc ++ r'.1 = acc0 ++ r.1 ∧ r'.2 = r.2, ⟨items.length, by simp, Nat.zero_le _, R1, e0, acc0, r, c, hq, rfl, rfl⟩, ?_⟩
  rintro i m H ⟨rfl, hil, R, e, acc, r', c', hq', e1, e2⟩
  by_cases hlt : i < items.length
  · refine .inr ⟨wk.go i R H (kp c') hlt, fun H' => ∃ R e acc r', Cfg G Z R H' [.lst acc] [.ref D] e (wipe σ own) ∧ compL g t elt own (items.drop (i + 1)) e = .ok r' ∧ acc ++ r'.1 = acc0 ++ r.1 ∧ r'.2 = r.2, fun H' q => ⟨items.length - (i + 1), by omega, rfl, by omega, q⟩, fun x H2 hy => ?_⟩
    obtain ⟨R2, d, hd, c3⟩ := wk.yld i _ R H _ _ e _ x H2 (kp c') hlt c' hy
    rw [show items.drop i = d :: items.drop (i + 1) from by
      obtain ⟨_, q⟩ := List.getElem?_eq_some_iff.mp hd
      rw [← q]
      exact List.drop_eq_getElem_cons hlt] at hq'
    simp only [compL] at hq'
    refine ⟨Z, R2, d, e, [.lst acc], [.ref D], fun j _ => hZ j, c3, ?_⟩
    cases hg : g d e with
    | none => rw [hg] at hq'; cases hq'
    | some e3 =>
      rw [hg] at hq'
      simp only at hq' ⊢
      intro σ3 c4 w3
      have ew : wipe σ3 own = wipe σ own := (w3 own hT).trans (wipe_wipe σ own)
      refine ⟨ew, Z, R2, [.lst acc], [.ref D], e3, c4, ?_⟩
      cases ht : t e3 with
      | bad => rw [ht] at hq'; cases hq'
      | exc x e => rw [ht] at hq'; cases hq'
      | ok p =>
        obtain ⟨b, e4⟩ := p
        rw [ht] at hq'
        intro R4 H4 c5
        cases b with
        | false =>
          simp only [Bool.false_eq_true, if_false] at hq' ⊢
          have c6 := c5.wipe own hZ
          rw [ew] at c6
          exact ⟨R4, _, acc, r', c6, hq', e1, e2⟩
        | true =>
          simp only [if_true] at hq' ⊢
          refine ⟨Z, R4, [.lst acc], [.ref D], e4, c5, ?_⟩
          cases he : elt e4 with
          | bad => rw [he] at hq'; cases hq'
          | exc x e => rw [he] at hq'; cases hq'
          | ok p =>
            obtain ⟨a, e5⟩ := p
            rw [he] at hq'
            cases a with
            | r i => cases hq'
            | v s =>
              simp only at hq'
              intro v R5 H5 c6
              cases hc : compL g t elt own (items.drop (i + 1)) (wipeE e5 own) with
              | bad => rw [hc] at hq'; cases hq'
              | exc x e => rw [hc] at hq'; cases hq'
              | ok r2 =>
                rw [hc] at hq'
                cases hq'
                obtain ⟨av, h1, h2, c7⟩ := Cfg.appD c6
                have e3 : (acc ++ [s]) ++ r2.1 = acc0 ++ r.1 := by
                  rw [← e1, List.append_assoc]
                  rfl
                refine ⟨av, h1, ?_, ?_⟩
                · rw [h2]
                  have := congrArg List.length e3
                  rw [List.length_append, List.length_append, List.length_singleton] at this
                  omega
                · have c8 := c7.wipe own hZ
                  rw [ew] at c8
                  exact ⟨R5, _, _, r2, c8, hc, e3, e2⟩
  · have e : i = items.length := by omega
    subst e
    rw [List.drop_length] at hq'
    cases hq'
    rw [List.append_nil] at e1
    simp only at e2
    subst e1 e2
    exact .inl ⟨wk.stop _ R H (kp c') (Nat.le_refl _), fin R H c'⟩

theorem lc_read {fA : Ax} {gI : List Sv → Option (List Dt)} {own T : List Nat} {g : Tgt} {t : Tx} {elt : Ex} {Z : Zn} {σ : L2.St} {H : Hp} {Q : VK} (hT : ∀ i ∈ T, i ∈ own) (h : ER (gd X C) Z W (eLc fA gI own g t elt) σ H Q) :
    tLc (IR (gd X C) Z W fA gI) (GR (gd X C) [] T g) (fun σ H Q => ∃ Z, TTR (gd X C) Z Wno t σ H Q) (fun σ H Q => ∃ Z, ER (gd X C) Z Wno elt σ H Q) own σ H Q := by
  obtain ⟨R, ts, vs, env, c, o⟩ := h
  refine ⟨R, ts, vs, env, c, ?_⟩
  unfold eLc at o
  revert o
  generalize fA env = r
  intro o
  match r, o with
  | .exc x e, o => exact o
  | .bad, o => exact o
  | .ok (as, e), o =>
    simp only at o ⊢
    cases ht : takeA as e with
    | none => rw [ht] at o; exact o
    | some q =>
      obtain ⟨ss, e1⟩ := q
      rw [ht] at o
      simp only at o ⊢
      cases hq : gI ss with
      | none => rw [hq] at o; exact o
      | some items =>
        rw [hq] at o
        simp only at o ⊢
        cases hc : compL g t elt own items (wipeE e1 own) with
        | bad => rw [hc] at o; exact o.elim
        | exc x e => rw [hc] at o; exact o.elim
        | ok r =>
          rw [hc] at o
          simp only at o
          by_cases hz : r.1.length ≤ sizeLine
          · rw [if_pos hz] at o
            intro J ws ss0 tw R1 H1 t1 c1 hl wk D hD
            obtain ⟨ft, fe, h1, c2, back⟩ := Cfg.aside (ts1 := []) (vs1 := []) rfl c1
            have c3 := c2.wipe own fun _ => rfl
            have c4 := Cfg.newLst (ss := []) (ws := []) (ts := []) (vs := []) rfl c3 hD
            refine compL_turns (Z := ⟨R1, H1, fe, fun _ => none⟩) (acc0 := []) hT (fun _ => rfl) wk (fun {R' H' ts' vs' env' σ'} c' => ?_) hc hz c4 fun R' H' c' => ?_
            · obtain ⟨b1, b2, _⟩ := back c'
              exact Kp.of hl h1 b1 c'.wf b2
            · have c5 := c'.unwipe fun _ => rfl
              obtain ⟨b1, b2, b3⟩ := back c5
              have c6 := b3 c1.pin
              have c7 := c6.rest (e0 := e1) (fun i d hd => by
                obtain ⟨v, hv, rr⟩ := c1.slot hd
                exact ⟨v, hv, rr.mono b1⟩) own
              exact o _ R' H' (put_ok t1 hl (ts := .lst r.1 :: ts) (vs := .ref D :: vs) (Cfg.under hl c7))
          · rw [if_neg hz] at o
            exact o.elim
variable {elt tg iter : Expr} {ifs : List Expr} {scope : Scope} {own : List (Str × Nat)} {pos : Pos} {fA : Ax} {gI : List Sv → Option (List Dt)} {T : List Nat} {g : Tgt} {t : Tx} {f : Ex}
theorem ve_lc (hc : X.calm = true) (hN : X.N.Nodup) (hi : VI C X W tg iter fA gI) (ok : BlkOk X.N X.env.scope scope own) (hT : ∀ i ∈ T, i ∈ own.map (·.2))
    (hg : ∀ (s : Shared) (H : Hp) (A : Addr) (cl : List (Str × Addr)) (fp : List Addr), VG C (X.blk s H scope (compEnvC scope cl A X.env) fp) [] T tg g) (ht : ∀ (s : Shared) (H : Hp) (A : Addr) (cl : List (Str × Addr)) (fp : List Addr), VTs C (X.blk s H scope (compEnvC scope cl A X.env) fp) Wno ifs t)
    (he : ∀ (s : Shared) (H : Hp) (A : Addr) (cl : List (Str × Addr)) (fp : List Addr), VE C (X.blk s H scope (compEnvC scope cl A X.env) fp) Wno elt f) (hs : ∀ x, foldedSetIterable iter X.env x = pure x := by intro _; rfl) :
    VE C X W (.ListComp elt [⟨tg, iter, ifs, 0⟩] scope pos) (eLc fA gI (own.map (·.2)) g t f) :=
  ⟨fun Z => pe_imp (pe_lc hc hN (hi.run Z) ok (fun s H A cl fp => (hg s H A cl fp).run) (fun s H A cl fp => (ht s H A cl fp).any) (fun s H A cl fp => (he s H A cl fp).any) hs) fun σ H Q h => lc_read hT h⟩
theorem vs_setLc {P : List Bool} {i : Nat} {y : Str} {py spos : Pos} (hc : X.calm = true) (hN : X.N.Nodup) (hy : X.N[i]? = some y) (hyl : X.env.scope.names.lookup y = some .local) (hP : P.getD i false = false)
    (hsw : swapsWith (.ListComp elt [⟨tg, iter, ifs, 0⟩] scope pos) (some (.Name y py)) spos.line X.env = pure true) (hi : VI C X W tg iter fA gI) (ok : BlkOk X.N X.env.scope scope own) (hT : ∀ i ∈ T, i ∈ own.map (·.2))
    (hg : ∀ (s : Shared) (H : Hp) (A : Addr) (cl : List (Str × Addr)) (fp : List Addr), VG C (X.blk s H scope (compEnvC scope cl A X.env) fp) [] T tg g) (ht : ∀ (s : Shared) (H : Hp) (A : Addr) (cl : List (Str × Addr)) (fp : List Addr), VTs C (X.blk s H scope (compEnvC scope cl A X.env) fp) Wno ifs t)
    (he : ∀ (s : Shared) (H : Hp) (A : Addr) (cl : List (Str × Addr)) (fp : List Addr), VE C (X.blk s H scope (compEnvC scope cl A X.env) fp) Wno elt f) (hs : ∀ x, foldedSetIterable iter X.env x = pure x := by intro _; rfl) :
    VS C X W P (.Assign [.Name y py] (.ListComp elt [⟨tg, iter, ifs, 0⟩] scope pos) spos) (sSet i (eLc fA gI (own.map (·.2)) g t f)) :=
  ⟨fun Z pz => ps_imp (ps_setLc hc hN hy hyl hsw (hi.run Z) ok (fun s H A cl fp => (hg s H A cl fp).run) (fun s H A cl fp => (ht s H A cl fp).any) (fun s H A cl fp => (he s H A cl fp).any) hs) fun D σ H h => lc_read hT (ofE_bind h fun R1 H1 a v e c o => by
    cases a with
    | v s => exact putS_ok (pz i hP) c o
    | r i => exact o.elim)⟩
/-! ### two clauses -/
theorem lc2_read {fA fA1 : Ax} {gI gI1 : List Sv → Option (List Dt)} {own vs1 T T1 : List Nat} {g g1 : Tgt} {t t1 : Tx} {elt : Ex} {Z : Zn} {σ : L2.St} {H : Hp} {Q : VK} (hT : ∀ i ∈ T, i ∈ own) (hT1 : ∀ i ∈ T1, i ∈ vs1) (hv : ∀ i ∈ vs1, i ∈ own) (h : ER (gd X C) Z W (eLc2 fA gI own vs1 g t fA1 gI1 g1 t1 elt) σ H Q) :
    tLc2 (IR (gd X C) Z W fA gI) (GR (gd X C) [] T g) (fun σ H Q => ∃ Z, TTR (gd X C) Z Wno t σ H Q) (fun σ H Q => ∃ Z, IR (gd X C) Z Wno fA1 gI1 σ H Q) (GR (gd X C) [] T1 g1) (fun σ H Q => ∃ Z, TTR (gd X C) Z Wno t1 σ H Q) (fun σ H Q => ∃ Z, ER (gd X C) Z Wno elt σ H Q) own vs1 σ H Q := by
  obtain ⟨R, ts, vs, env, c, o⟩ := h
  refine ⟨R, ts, vs, env, c, ?_⟩
  unfold eLc2 at o
  revert o
  generalize fA env = r
  intro o
  match r, o with
  | .exc x e, o => exact o
  | .bad, o => exact o
  | .ok (as, e), o =>
    simp only at o ⊢
    cases ht : takeA as e with
    | none => rw [ht] at o; exact o
    | some q =>
      obtain ⟨ss, e1⟩ := q
      rw [ht] at o
      simp only at o ⊢
      cases hq : gI ss with
      | none => rw [hq] at o; exact o
      | some items =>
        rw [hq] at o
        simp only at o ⊢
        cases hc : compL2 g t fA1 gI1 g1 t1 elt own vs1 items (wipeE e1 own) with
        | bad => rw [hc] at o; exact o.elim
        | exc x e => rw [hc] at o; exact o.elim
        | ok r =>
          rw [hc] at o
          simp only at o
          by_cases hz : r.1.length ≤ sizeLine
          · rw [if_pos hz] at o
            intro J ws ss0 tw R1 H1 tm c1 hl wk D hD
            obtain ⟨ft, fe, h1, c2, back⟩ := Cfg.aside (ts1 := []) (vs1 := []) rfl c1
            have c3 := c2.wipe own fun _ => rfl
            have c4 := Cfg.newLst (ss := []) (ws := []) (ts := []) (vs := []) rfl c3 hD
            have kp : ∀ {R' H' ts' vs' env' σ'}, Cfg (gd X C) ⟨R1, H1, fe, fun _ => none⟩ R' H' ts' vs' env' σ' → Kp R1 H1 ss ws R' H' := fun {R' H' ts' vs' env' σ'} c' => by
              obtain ⟨b1, b2, _⟩ := back c'
              exact Kp.of hl h1 b1 c'.wf b2
            refine ⟨fun i m H => m = items.length - i ∧ i ≤ items.length ∧ ∃ R e acc r', Cfg (gd X C) ⟨R1, H1, fe, fun _ => none⟩ R H [.lst acc] [.ref D] e (wipe σ own) ∧ compL2 g t fA1 gI1 g1 t1 elt own vs1 (items.drop i) e = .ok r' ∧ acc ++ r'.1 = r.1 ∧ r'.2 = r.2, ⟨items.length, by simp, Nat.zero_le _, R1, _, [], r, c4, hc, rfl, rfl⟩, ?_⟩
            rintro i m H ⟨rfl, hil, R, e, acc, r', c', hq', ea, eb⟩
            by_cases hlt : i < items.length
            · refine .inr ⟨wk.go i R H (kp c') hlt, fun H' => ∃ R e acc r', Cfg (gd X C) ⟨R1, H1, fe, fun _ => none⟩ R H' [.lst acc] [.ref D] e (wipe σ own) ∧ compL2 g t fA1 gI1 g1 t1 elt own vs1 (items.drop (i + 1)) e = .ok r' ∧ acc ++ r'.1 = r.1 ∧ r'.2 = r.2, fun H' q => ⟨items.length - (i + 1), by omega, rfl, by omega, q⟩, fun x H2 hy => ?_⟩
              obtain ⟨R2, d, hd, c5⟩ := wk.yld i _ R H _ _ e _ x H2 (kp c') hlt c' hy
              rw [show items.drop i = d :: items.drop (i + 1) from by
                obtain ⟨_, q⟩ := List.getElem?_eq_some_iff.mp hd
                rw [← q]
                exact List.drop_eq_getElem_cons hlt] at hq'
              simp only [compL2] at hq'
              refine ⟨_, R2, d, e, [.lst acc], [.ref D], fun j _ => rfl, c5, ?_⟩
              cases hg : g d e with
              | none => rw [hg] at hq'; cases hq'
              | some e3 =>
                rw [hg] at hq'
                simp only at hq' ⊢
                intro σ2 c6 w3
                have ew : wipe σ2 own = wipe σ own := (w3 own hT).trans (wipe_wipe σ own)
                refine ⟨ew, _, R2, [.lst acc], [.ref D], e3, c6, ?_⟩
                cases ht3 : t e3 with
                | bad => rw [ht3] at hq'; cases hq'
                | exc x e => rw [ht3] at hq'; cases hq'
                | ok p =>
                  obtain ⟨b, e4⟩ := p
                  rw [ht3] at hq'
                  intro R4 H4 c7
                  cases b with
                  | false =>
                    simp only [Bool.false_eq_true, if_false] at hq' ⊢
                    have c8 := c7.wipe own fun _ => rfl
                    rw [ew] at c8
                    exact ⟨R4, _, acc, r', c8, hq', ea, eb⟩
                  | true =>
                    simp only [if_true] at hq' ⊢
                    refine ⟨_, R4, [.lst acc], [.ref D], e4, c7, ?_⟩
                    cases hA : fA1 e4 with
                    | bad => rw [hA] at hq'; cases hq'
                    | exc x e => rw [hA] at hq'; cases hq'
                    | ok a =>
                      obtain ⟨as1, e5⟩ := a
                      rw [hA] at hq'
                      simp only at hq' ⊢
                      cases ht5 : takeA as1 e5 with
                      | none => rw [ht5] at hq'; cases hq'
                      | some q1 =>
                        obtain ⟨ss1, e6⟩ := q1
                        rw [ht5] at hq'
                        simp only at hq' ⊢
                        cases hq6 : gI1 ss1 with
                        | none => rw [hq6] at hq'; cases hq'
                        | some items1 =>
                          rw [hq6] at hq'
                          simp only at hq' ⊢
                          intro J1 ws1 ss01 tw1 R6 H6 tm1 c8 hl1 wk1
                          cases hc1 : compL g1 t1 elt vs1 items1 (wipeE e6 vs1) with
                          | bad => rw [hc1] at hq'; cases hq'
                          | exc x e => rw [hc1] at hq'; cases hq'
                          | ok r1 =>
                            rw [hc1] at hq'
                            simp only at hq'
                            cases hc2 : compL2 g t fA1 gI1 g1 t1 elt own vs1 (items.drop (i + 1)) (wipeE (putA as1 (ss1.map some) (wipeE r1.2 vs1)) own) with
                            | bad => rw [hc2] at hq'; cases hq'
                            | exc x e => rw [hc2] at hq'; cases hq'
                            | ok r2 =>
                              rw [hc2] at hq'
                              cases hq'
                              have e3' : acc ++ r1.1 ++ r2.1 = r.1 := by
                                rw [List.append_assoc]
                                exact ea
                              have hz1 : (acc ++ r1.1).length ≤ sizeLine := by
                                have := congrArg List.length e3'
                                rw [List.length_append] at this
                                omega
                              have c9 := Cfg.over (ts := []) (vs := []) hl1 c8
                              rw [List.append_nil, List.append_nil] at c9
                              obtain ⟨ft1, fe1, h11, c10, back1⟩ := Cfg.aside (ts1 := [.lst acc]) (vs1 := [.ref D]) rfl c9
                              have c11 := c10.wipe vs1 fun _ => rfl
                              refine compL_turns (Z := ⟨R6, H6, fe1, fun _ => none⟩) (acc0 := acc) hT1 (fun _ => rfl) wk1 (fun {R' H' ts' vs' env' σ'} c' => ?_) hc1 hz1 c11 fun R' H' c' => ?_
                              · obtain ⟨b1, b2, _⟩ := back1 c'
                                exact Kp.of (ts2 := []) (vs2 := []) hl1 (by rw [List.append_nil, List.append_nil]; exact h11) b1 c'.wf b2
                              · have c12 := c'.unwipe fun _ => rfl
                                obtain ⟨b1, b2, b3⟩ := back1 c12
                                have c13 := b3 fun j v e => nomatch e
                                have c14 := put_ok tm1 hl1 (ts := [.lst (acc ++ r1.1)]) (vs := [.ref D]) (Cfg.under (ts := []) (vs := []) hl1 (by rw [List.append_nil, List.append_nil]; exact c13))
                                have c15 := c14.wipe own fun _ => rfl
                                rw [ew] at c15
                                exact ⟨R', _, _, r2, c15, hc2, e3', eb⟩
            · have ei : i = items.length := by omega
              subst ei
              rw [List.drop_length] at hq'
              cases hq'
              rw [List.append_nil] at ea
              simp only at eb
              rw [ea, eb] at c'
              have c5 := c'.unwipe fun _ => rfl
              obtain ⟨b1, b2, b3⟩ := back c5
              have c6 := b3 c1.pin
              have c7 := c6.rest (e0 := e1) (fun i d hd => by
                obtain ⟨v, hv, rr⟩ := c1.slot hd
                exact ⟨v, hv, rr.mono b1⟩) own
              exact .inl ⟨wk.stop _ R H (kp c') (Nat.le_refl _), o _ R H (put_ok tm hl (ts := .lst r.1 :: ts) (vs := .ref D :: vs) (Cfg.under hl c7))⟩
          · rw [if_neg hz] at o
            exact o.elim
variable {tg1 iter1 : Expr} {ifs1 : List Expr} {fA1 : Ax} {gI1 : List Sv → Option (List Dt)} {T1 vs1 : List Nat} {g1 : Tgt} {t1 : Tx}
theorem ve_lc2 (hc : X.calm = true) (hN : X.N.Nodup) (hi : VI C X W tg iter fA gI) (ok : BlkOk X.N X.env.scope scope own) (hv : ∀ i ∈ vs1, i ∈ own.map (·.2)) (hT : ∀ i ∈ T, i ∈ own.map (·.2)) (hT1 : ∀ i ∈ T1, i ∈ vs1)
    (hg : ∀ (s : Shared) (H : Hp) (A : Addr) (cl : List (Str × Addr)) (fp : List Addr), VG C (X.blk s H scope (compEnvC scope cl A X.env) fp) [] T tg g) (ht : ∀ (s : Shared) (H : Hp) (A : Addr) (cl : List (Str × Addr)) (fp : List Addr), VTs C (X.blk s H scope (compEnvC scope cl A X.env) fp) Wno ifs t)
    (hi1 : ∀ (s : Shared) (H : Hp) (A : Addr) (cl : List (Str × Addr)) (fp : List Addr), VI C (X.blk s H scope (compEnvC scope cl A X.env) fp) Wno tg1 iter1 fA1 gI1)
    (hg1 : ∀ (s : Shared) (H : Hp) (A : Addr) (cl : List (Str × Addr)) (fp : List Addr), VG C (X.blk s H scope (compEnvC scope cl A X.env) fp) [] T1 tg1 g1) (ht1 : ∀ (s : Shared) (H : Hp) (A : Addr) (cl : List (Str × Addr)) (fp : List Addr), VTs C (X.blk s H scope (compEnvC scope cl A X.env) fp) Wno ifs1 t1)
    (he : ∀ (s : Shared) (H : Hp) (A : Addr) (cl : List (Str × Addr)) (fp : List Addr), VE C (X.blk s H scope (compEnvC scope cl A X.env) fp) Wno elt f) (hs : ∀ x, foldedSetIterable iter X.env x = pure x := by intro _; rfl) (hs1 : ∀ (env : PySem.Env) x, foldedSetIterable iter1 env x = pure x := by intro _ _; rfl) :
    VE C X W (.ListComp elt [⟨tg, iter, ifs, 0⟩, ⟨tg1, iter1, ifs1, 0⟩] scope pos) (eLc2 fA gI (own.map (·.2)) vs1 g t fA1 gI1 g1 t1 f) :=
  ⟨fun Z => pe_imp (pe_lc2 hc hN (hi.run Z) ok hv (fun s H A cl fp => (hg s H A cl fp).run) (fun s H A cl fp => (ht s H A cl fp).any) (fun s H A cl fp => (hi1 s H A cl fp).any) (fun s H A cl fp => (hg1 s H A cl fp).run) (fun s H A cl fp => (ht1 s H A cl fp).any) (fun s H A cl fp => (he s H A cl fp).any) hs hs1) fun σ H Q h => lc2_read hT hT1 hv h⟩
theorem vs_setLc2 {P : List Bool} {i : Nat} {y : Str} {py spos : Pos} (hc : X.calm = true) (hN : X.N.Nodup) (hy : X.N[i]? = some y) (hyl : X.env.scope.names.lookup y = some .local) (hP : P.getD i false = false)
    (hsw : swapsWith (.ListComp elt [⟨tg, iter, ifs, 0⟩, ⟨tg1, iter1, ifs1, 0⟩] scope pos) (some (.Name y py)) spos.line X.env = pure true) (hi : VI C X W tg iter fA gI) (ok : BlkOk X.N X.env.scope scope own) (hv : ∀ i ∈ vs1, i ∈ own.map (·.2)) (hT : ∀ i ∈ T, i ∈ own.map (·.2)) (hT1 : ∀ i ∈ T1, i ∈ vs1)
    (hg : ∀ (s : Shared) (H : Hp) (A : Addr) (cl : List (Str × Addr)) (fp : List Addr), VG C (X.blk s H scope (compEnvC scope cl A X.env) fp) [] T tg g) (ht : ∀ (s : Shared) (H : Hp) (A : Addr) (cl : List (Str × Addr)) (fp : List Addr), VTs C (X.blk s H scope (compEnvC scope cl A X.env) fp) Wno ifs t)
    (hi1 : ∀ (s : Shared) (H : Hp) (A : Addr) (cl : List (Str × Addr)) (fp : List Addr), VI C (X.blk s H scope (compEnvC scope cl A X.env) fp) Wno tg1 iter1 fA1 gI1)
    (hg1 : ∀ (s : Shared) (H : Hp) (A : Addr) (cl : List (Str × Addr)) (fp : List Addr), VG C (X.blk s H scope (compEnvC scope cl A X.env) fp) [] T1 tg1 g1) (ht1 : ∀ (s : Shared) (H : Hp) (A : Addr) (cl : List (Str × Addr)) (fp : List Addr), VTs C (X.blk s H scope (compEnvC scope cl A X.env) fp) Wno ifs1 t1)
    (he : ∀ (s : Shared) (H : Hp) (A : Addr) (cl : List (Str × Addr)) (fp : List Addr), VE C (X.blk s H scope (compEnvC scope cl A X.env) fp) Wno elt f) (hs : ∀ x, foldedSetIterable iter X.env x = pure x := by intro _; rfl) (hs1 : ∀ (env : PySem.Env) x, foldedSetIterable iter1 env x = pure x := by intro _ _; rfl) :
    VS C X W P (.Assign [.Name y py] (.ListComp elt [⟨tg, iter, ifs, 0⟩, ⟨tg1, iter1, ifs1, 0⟩] scope pos) spos) (sSet i (eLc2 fA gI (own.map (·.2)) vs1 g t fA1 gI1 g1 t1 f)) :=
  ⟨fun Z pz => ps_imp (ps_setLc2 hc hN hy hyl hsw (hi.run Z) ok hv (fun s H A cl fp => (hg s H A cl fp).run) (fun s H A cl fp => (ht s H A cl fp).any) (fun s H A cl fp => (hi1 s H A cl fp).any) (fun s H A cl fp => (hg1 s H A cl fp).run) (fun s H A cl fp => (ht1 s H A cl fp).any) (fun s H A cl fp => (he s H A cl fp).any) hs hs1) fun D σ H h => lc2_read hT hT1 hv (ofE_bind h fun R1 H1 a v e c o => by
    cases a with
    | v s => exact putS_ok (pz i hP) c o
    | r i => exact o.elim)⟩
end
end Fw
set_option Elab.async false
set_option linter.all false
set_option maxRecDepth 100000
set_option maxHeartbeats 1000000
/-! What is walked: lists, tuples, texts, ranges, enumerate, zip, reversed. -/
namespace Fw
open PySem PySem.Spec PyProof.Rows L2

@[simp] def allFz : List Sv → Option (List Dt)
  | [] => some []
  | .fz d :: ss => (allFz ss).map fun r => d :: r
  | _ :: _ => none
@[simp] def elemsL : Sv → Option (List Dt)
  | .fz (.lst ds) => some ds
  | .lst ss => allFz ss
  | _ => none
def signs (x : Str) : List Dt := x.cps.toList.map fun c => .str ⟨#[c]⟩
@[simp] def elems : Sv → Option (List Dt)
  | .fz (.tup ds) => some ds
  | .fz (.str x) => some (signs x)
  | s => elemsL s
section
variable {G : Gd} {Z : Zn} {W : WX} {R H : Hp} {ts : List Sv} {vs : List V} {env : Env} {σ : L2.St}
theorem allFz_ok : ∀ {ss : List Sv} {ds : List Dt} {ws : List V} {g : Fp}, allFz ss = some ds → RpSs G R H ss ws g → RpDs G R ds ws
  | [], ds, ws, g, h, ⟨e, _⟩ => by cases h; exact e
  | .fz d :: ss, ds, ws, g, h, ⟨v, vr, g1, k, e, hs, r, _⟩ => by
    simp only [allFz] at h
    cases q : allFz ss with
    | none => rw [q] at h; cases h
    | some l => rw [q] at h; cases h; exact ⟨v, vr, e, hs.1, allFz_ok q r⟩
  | .lst _ :: _, _, _, _, h, _ => nomatch h
  | .ins _ _ _ :: _, _, _, _, h, _ => nomatch h
theorem RpDs.get : ∀ {ds : List Dt} {ws : List V} {i : Nat} {d : Dt} {x : V}, RpDs G R ds ws → ds[i]? = some d → ws[i]? = some x → RpD G R d x
  | [], _, _, _, _, _, h, _ => by simp at h
  | d :: ds, _, 0, _, _, ⟨v, vr, e, h, r⟩, hd, hx => by
    subst e
    have e1 : d = _ := Option.some.inj hd
    have e2 : v = _ := Option.some.inj hx
    subst e1 e2
    exact h
  | d :: ds, _, i + 1, _, _, ⟨v, vr, e, h, r⟩, hd, hx => by
    subst e
    exact RpDs.get r (by simpa using hd) (by simpa using hx)
theorem elemsL_kp {s : Sv} {v : V} {ds : List Dt} (c : Cfg G Z R H (s :: ts) (v :: vs) env σ) (h : elemsL s = some ds) : ∃ a ws, v = .ref a ∧ RpDs G R ds ws ∧ SqL G.K H a ws ∧ ∀ ss2 ws2 R' H', Kp R H (s :: ss2) (v :: ws2) R' H' → SqL G.K H' a ws := by
  have sub := c.wf
  obtain ⟨f, r⟩ := c.topS
  cases s with
  | ins _ _ _ => cases h
  | lst ss =>
    obtain ⟨a, ws, g, rfl, ha, hs, _⟩ := r
    exact ⟨a, ws, rfl, allFz_ok h hs, .inl (.inl ha), fun ss2 ws2 R' H' k => .inl (.inl ((k.at_ 0 ss a rfl rfl).trans ha))⟩
  | fz d =>
    cases d with
    | lst l =>
      cases h
      obtain ⟨⟨a, ws, rfl, ha, hs⟩, _⟩ := r
      exact ⟨a, ws, rfl, hs, sub.seq ha, fun ss2 ws2 R' H' k => k.sub.seq (k.rs.seq ha)⟩
    | _ => cases h
theorem elemsT_kp {v : V} {ds : List Dt} (c : Cfg G Z R H (.fz (.tup ds) :: ts) (v :: vs) env σ) : ∃ a ws, v = .ref a ∧ RpDs G R ds ws ∧ SqT G.K H a ws ∧ ∀ ss2 ws2 R' H', Kp R H ss2 ws2 R' H' → SqT G.K H' a ws := by
  have sub := c.wf
  obtain ⟨a, ws, rfl, ha, hs⟩ := c.top
  exact ⟨a, ws, rfl, hs, sqT_mono sub ha, fun ss2 ws2 R' H' k => sqT_mono k.sub (sqT_mono k.rs ha)⟩
theorem get_of {α : Type} {l : List α} {i : Nat} (h : i < l.length) : ∃ x, l[i]? = some x := ⟨l[i], List.getElem?_eq_getElem h⟩
theorem wk_list {ss : List Sv} {ws0 : List V} {a : Addr} {ws : List V} {ds : List Dt} (hr : RpDs G R ds ws) (hk : ∀ R' H', Kp R H ss ws0 R' H' → SqL G.K H' a ws) : Wk G R H ss ws0 (Itl G.K a) ds where
  go := fun i R' H' k hi => by
    obtain ⟨x, hx⟩ := get_of (l := ws) (by rw [← hr.len]; exact hi)
    exact ⟨ws, x, hk R' H' k, hx⟩
  stop := fun i R' H' k hi => ⟨ws, hk R' H' k, by rw [← hr.len]; exact hi⟩
  yld := fun i Z R' H' ts vs env σ x H2 k hi c hy => by
    obtain ⟨rfl, hy⟩ := hy
    have hx := hy ws (hk R' _ k)
    obtain ⟨d, hd⟩ := get_of hi
    exact ⟨R', d, hd, c.push ((hr.get hd hx).mono k.rs)⟩
theorem wk_tup {ss : List Sv} {ws0 : List V} {a : Addr} {ws : List V} {ds : List Dt} (hr : RpDs G R ds ws) (hk : ∀ R' H', Kp R H ss ws0 R' H' → SqT G.K H' a ws) : Wk G R H ss ws0 (Itt G.K a) ds where
  go := fun i R' H' k hi => by
    obtain ⟨x, hx⟩ := get_of (l := ws) (by rw [← hr.len]; exact hi)
    exact ⟨ws, x, hk R' H' k, hx⟩
  stop := fun i R' H' k hi => ⟨ws, hk R' H' k, by rw [← hr.len]; exact hi⟩
  yld := fun i Z R' H' ts vs env σ x H2 k hi c hy => by
    obtain ⟨rfl, hy⟩ := hy
    have hx := hy ws (hk R' _ k)
    obtain ⟨d, hd⟩ := get_of hi
    exact ⟨R', d, hd, c.push ((hr.get hd hx).mono k.rs)⟩
theorem wk_str {ss : List Sv} {ws0 : List V} {x : Str} : Wk G R H ss ws0 (Its x) (signs x) where
  go := fun i R' H' k hi => by
    show i < x.cps.size
    unfold signs at hi
    rw [List.length_map, Array.length_toList] at hi
    exact hi
  stop := fun i R' H' k hi => by
    show x.cps.size ≤ i
    unfold signs at hi
    rw [List.length_map, Array.length_toList] at hi
    exact hi
  yld := fun i Z R' H' ts vs env σ v H2 k hi c hy => by
    obtain ⟨rfl, cc, hc, rfl⟩ := hy
    refine ⟨R', .str ⟨#[cc]⟩, ?_, c.push rfl⟩
    unfold signs
    rw [List.getElem?_map]
    have : x.cps.toList[i]? = some cc := by simpa using hc
    rw [this]
    rfl
theorem wk_range {ss : List Sv} {ws0 : List V} {lo : Int} {n : Nat} : Wk G R H ss ws0 (Itr lo n) ((List.range n).map fun k : Nat => Dt.int (lo + (k : Int))) where
  go := fun i R' H' k hi => by
    rw [List.length_map, List.length_range] at hi
    exact hi
  stop := fun i R' H' k hi => by
    rw [List.length_map, List.length_range] at hi
    exact hi
  yld := fun i Z R' H' ts vs env σ v H2 k hi c hy => by
    obtain ⟨rfl, rfl⟩ := hy
    rw [List.length_map, List.length_range] at hi
    exact ⟨R', .int (lo + (i : Int)), by rw [List.getElem?_map, List.getElem?_range hi]; rfl, c.push rfl⟩
theorem wk_rangeC {ss : List Sv} {ws0 : List V} {lo c : Int} {n : Nat} : Wk G R H ss ws0 (Itc lo c n) ((List.range n).map fun k : Nat => Dt.int (lo + (k : Int) * c)) where
  go := fun i R' H' k hi => by
    rw [List.length_map, List.length_range] at hi
    exact hi
  stop := fun i R' H' k hi => by
    rw [List.length_map, List.length_range] at hi
    exact hi
  yld := fun i Z R' H' ts vs env σ v H2 k hi cc hy => by
    obtain ⟨rfl, rfl⟩ := hy
    rw [List.length_map, List.length_range] at hi
    exact ⟨R', .int (lo + (i : Int) * c), by rw [List.getElem?_map, List.getElem?_range hi]; rfl, cc.push rfl⟩
theorem wk_rev {ss : List Sv} {ws0 : List V} {a : Addr} {ws : List V} {ds : List Dt} (hr : RpDs G R ds ws) (hk : ∀ R' H', Kp R H ss ws0 R' H' → SqL G.K H' a ws) : Wk G R H ss ws0 (Itv G.K a ws.length) ds.reverse where
  go := fun i R' H' k hi => by
    rw [List.length_reverse, hr.len] at hi
    obtain ⟨x, hx⟩ := get_of (l := ws) (i := ws.length - 1 - i) (by omega)
    exact ⟨hi, ws, x, hk R' H' k, hx⟩
  stop := fun i R' H' k hi => by
    rw [List.length_reverse, hr.len] at hi
    exact hi
  yld := fun i Z R' H' ts vs env σ x H2 k hi c hy => by
    obtain ⟨rfl, hy⟩ := hy
    have hx := hy ws (hk R' _ k)
    rw [List.length_reverse] at hi
    obtain ⟨d, hd⟩ := get_of (l := ds) (i := ws.length - 1 - i) (by rw [hr.len] at hi ⊢; omega)
    exact ⟨R', d, by rw [List.getElem?_reverse hi, hr.len]; exact hd, c.push ((hr.get hd hx).mono k.rs)⟩
def enumD (ds : List Dt) : List Dt := (List.range ds.length).map fun i => .tup [.int (i : Nat), ds.getD i .non]
theorem wk_enum {ss : List Sv} {ws0 : List V} {a : Addr} {ws : List V} {ds : List Dt} (hr : RpDs G R ds ws) (hk : ∀ R' H', Kp R H ss ws0 R' H' → SqL G.K H' a ws) : Wk G R H ss ws0 (Ite G.K a) (enumD ds) where
  go := fun i R' H' k hi => by
    unfold enumD at hi
    rw [List.length_map, List.length_range] at hi
    obtain ⟨x, hx⟩ := get_of (l := ws) (by rw [← hr.len]; exact hi)
    exact ⟨ws, x, hk R' H' k, hx⟩
  stop := fun i R' H' k hi => by
    unfold enumD at hi
    rw [List.length_map, List.length_range] at hi
    exact ⟨ws, hk R' H' k, by rw [← hr.len]; exact hi⟩
  yld := fun i Z R' H' ts vs env σ v H2 k hi c hy => by
    obtain ⟨T, x, rfl, hT, rfl, hy⟩ := hy
    unfold enumD at hi ⊢
    rw [List.length_map, List.length_range] at hi
    have hx := hy ws (hk R' H' k)
    obtain ⟨d, hd⟩ := get_of hi
    obtain ⟨c2, e2⟩ := c.grow (.tup [.int (i : Nat), x]) hT
    refine ⟨_, .tup [.int (i : Nat), d], ?_, c2.push ⟨T, [.int (i : Nat), x], rfl, .inl (.inl upd_same), ⟨_, _, rfl, rfl, _, _, rfl, ((hr.get hd hx).mono k.rs).mono e2, rfl⟩⟩⟩
    rw [List.getElem?_map, List.getElem?_range hi]
    show some (Dt.tup [.int (i : Nat), ds.getD i .non]) = _
    rw [List.getD_eq_getElem?_getD, hd]
    rfl
def zipD (ds es : List Dt) : List Dt := (List.zip ds es).map fun p => .tup [p.1, p.2]
theorem wk_zip {ss : List Sv} {ws0 : List V} {a b : Addr} {ws us : List V} {ds es : List Dt} (hr : RpDs G R ds ws) (hr2 : RpDs G R es us) (hk : ∀ R' H', Kp R H ss ws0 R' H' → SqL G.K H' a ws) (hk2 : ∀ R' H', Kp R H ss ws0 R' H' → SqL G.K H' b us) : Wk G R H ss ws0 (Itz G.K a b) (zipD ds es) where
  go := fun i R' H' k hi => by
    unfold zipD at hi
    rw [List.length_map, List.length_zip] at hi
    obtain ⟨x, hx⟩ := get_of (l := ws) (i := i) (by rw [← hr.len]; omega)
    obtain ⟨y, hy⟩ := get_of (l := us) (i := i) (by rw [← hr2.len]; omega)
    exact ⟨ws, us, x, y, hk R' H' k, hk2 R' H' k, hx, hy⟩
  stop := fun i R' H' k hi => by
    unfold zipD at hi
    rw [List.length_map, List.length_zip] at hi
    refine ⟨ws, us, hk R' H' k, hk2 R' H' k, ?_⟩
    rw [← hr.len, ← hr2.len]
    omega
  yld := fun i Z R' H' ts vs env σ v H2 k hi c hy => by
    obtain ⟨T, x, y, rfl, hT, rfl, hx, hy⟩ := hy
    unfold zipD at hi ⊢
    rw [List.length_map, List.length_zip] at hi
    have hx := hx ws (hk R' H' k)
    have hy := hy us (hk2 R' H' k)
    obtain ⟨d, hd⟩ := get_of (l := ds) (i := i) (by omega)
    obtain ⟨e, he⟩ := get_of (l := es) (i := i) (by omega)
    obtain ⟨c2, e2⟩ := c.grow (.tup [x, y]) hT
    refine ⟨_, .tup [d, e], ?_, c2.push ⟨T, [x, y], rfl, .inl (.inl upd_same), ⟨_, _, rfl, ((hr.get hd hx).mono k.rs).mono e2, _, _, rfl, ((hr2.get he hy).mono k.rs).mono e2, rfl⟩⟩⟩
    rw [List.getElem?_map, (List.getElem?_zip_eq_some (z := (d, e))).mpr ⟨hd, he⟩]
    rfl
end

/-! ### the sources -/
section
variable {C : Str → Addr} {X : Cx} {W : WX} {tg : Expr}
/-- a list, a tuple, a text -/
def iSeq (K : PySem.W.Frag) (tl : TE) : TI := fun σ H R => tl σ H fun x H1 => (∃ a, x = .ref a ∧ (∃ xs, SqL K H1 a xs) ∧ R (Itl K a) H1) ∨ (∃ a, x = .ref a ∧ (∃ xs, SqT K H1 a xs) ∧ R (Itt K a) H1) ∨ (∃ z, x = .str z ∧ R (Its z) H1)
theorem pi_seq {l : Expr} {tl : TE} (hl : PE X l tl) : PI X tg l (iSeq X.K tl) := by
  refine ⟨fun pins s σ H R I h => ?_⟩
  refine thn (hl.run pins s σ H _ I h) fun v s1 ⟨x, H1, I1, r1, q1⟩ => ?_
  rcases q1 with ⟨a, e, ⟨xs, hq⟩, q⟩ | ⟨a, e, ⟨xs, hq⟩, q⟩ | ⟨z, e, q⟩
  · subst e
    cases r1
    obtain ⟨its, rv, p, hz⟩ := I1.list hq
    refine wpAny_pyIter_list p.isList ?_
    refine ⟨s1.heap.objs.size, [s1.heap.objs.size], _, _, H1, rfl, I1.kept (t' := s1.toks) fun b o e => Heap.get?_push_of_some _ e, turn_list a _, ⟨_, Heap.get?_push_size _ rfl, rfl, rfl⟩, fun b hb => ?_, q⟩
    have e : b = s1.heap.objs.size := by simpa using hb
    subst e
    exact I1.fpOk (Nat.le_refl _) (I1.hok.fresh (Nat.le_refl _))
  · subst e
    cases r1
    obtain ⟨its, rv, p, hz⟩ := I1.tuple hq
    refine wpAny_pyIter_tuple (show s1.heap.IsTuple a its.toArray from p) ?_
    refine ⟨s1.heap.objs.size, [s1.heap.objs.size], _, _, H1, rfl, I1.kept (t' := s1.toks) fun b o e => Heap.get?_push_of_some _ e, turn_tuple a _, ⟨_, Heap.get?_push_size _ rfl, rfl, rfl⟩, fun b hb => ?_, q⟩
    have e : b = s1.heap.objs.size := by simpa using hb
    subst e
    exact I1.fpOk (Nat.le_refl _) (I1.hok.fresh (Nat.le_refl _))
  · subst e
    obtain ⟨t, rfl⟩ := r1
    cases ha : z.cps.all (· < 128)
    · exact wpAny_pyIter_wide ha (pi_one (tk := s1.toks) I1 _ (turn_str _ z t "str_iterator" (.inr rfl)) ⟨_, Heap.get?_push_size _ rfl, rfl, rfl⟩ q)
    · exact wpAny_pyIter_ascii ha (pi_one (tk := s1.toks) I1 _ (turn_str _ z t "str_ascii_iterator" (.inl rfl)) ⟨_, Heap.get?_push_size _ rfl, rfl, rfl⟩ q)
@[simp] def aOne (f : Ex) : Ax := aCons f aNil
@[simp] def one (g : Sv → Option (List Dt)) : List Sv → Option (List Dt)
  | [s] => g s
  | _ => none
theorem ir_one {G : Gd} {Z : Zn} {f : Ex} {gI : List Sv → Option (List Dt)} {σ : L2.St} {H : Hp} {Rk : It → Hp → Prop} (h : IR G Z W (aOne f) gI σ H Rk) :
    ER G Z W f σ H fun v H1 => ∃ R1 ts vs s e1 items, Cfg G Z R1 H1 (s :: ts) (v :: vs) e1 σ ∧ gI [s] = some items ∧ ∀ J, Wk G R1 H1 [s] [v] J items → Rk J H1 := by
  obtain ⟨R, ts, vs, env, c, o⟩ := h
  refine ⟨R, ts, vs, env, c, ?_⟩
  revert o
  unfold aOne aCons aNil
  generalize f env = r
  intro o
  match r, o with
  | .exc x e, o => exact o
  | .bad, o => exact o
  | .ok (a, e), o =>
    intro v R' H' c'
    simp only [Res.bind] at o
    cases ht : takeA [a] e with
    | none => rw [ht] at o; exact o.elim
    | some t =>
      obtain ⟨ss, e1⟩ := t
      rw [ht] at o
      simp only at o
      cases hq : gI ss with
      | none => rw [hq] at o; exact o.elim
      | some items =>
        rw [hq] at o
        simp only at o
        obtain ⟨ss0, tw, tm, c2⟩ := c'.tmp
        obtain ⟨c3, hl⟩ := take_all tm ht c2
        cases ss with
        | nil => cases hl
        | cons s r =>
          cases r with
          | cons _ _ => cases hl
          | nil => exact ⟨R', ts, vs, s, e1, items, c3, hq, fun J wk => o J [v] ss0 tw R' H' tm c3 hl wk⟩
theorem ir_args {G : Gd} {Z : Zn} {fA : Ax} {gI : List Sv → Option (List Dt)} {σ : L2.St} {H : Hp} {Rk : It → Hp → Prop} (h : IR G Z W fA gI σ H Rk) :
    AR G Z W fA σ H fun ws H1 => ∃ R1 ts vs ss e1 items, Cfg G Z R1 H1 (ss ++ ts) (ws ++ vs) e1 σ ∧ ss.length = ws.length ∧ gI ss = some items ∧ ∀ J, Wk G R1 H1 ss ws J items → Rk J H1 := by
  obtain ⟨R, ts, vs, env, c, o⟩ := h
  refine ⟨R, ts, vs, env, c, ?_⟩
  revert o
  generalize fA env = r
  intro o
  match r, o with
  | .exc x e, o => exact o
  | .bad, o => exact o
  | .ok (as, e), o =>
    rintro ws R' H' ⟨ss0, tw, tm, c2⟩
    simp only at o
    cases ht : takeA as e with
    | none => rw [ht] at o; exact o.elim
    | some t =>
      obtain ⟨ss, e1⟩ := t
      rw [ht] at o
      simp only at o
      cases hq : gI ss with
      | none => rw [hq] at o; exact o.elim
      | some items =>
        rw [hq] at o
        simp only at o
        obtain ⟨c3, hl⟩ := take_all tm ht c2
        exact ⟨R', ts, vs, ss, e1, items, c3, hl, hq, fun J wk => o J ws ss0 tw R' H' tm c3 hl wk⟩
theorem vi_seq {e : Expr} {f : Ex} (h : VE C X W e f) : VI C X W tg e (aOne f) (one elems) := by
  refine ⟨fun Z => pi_imp (pi_seq (h.run Z)) fun σ H Rk h => ?_⟩
  refine (ir_one h).mono fun v H1 ⟨R1, ts, vs, s, e1, items, c, hq, k⟩ => ?_
  have lists : elemsL s = some items → (∃ a, v = .ref a ∧ (∃ xs, SqL X.K H1 a xs) ∧ Rk (Itl X.K a) H1) := fun hl => by
    obtain ⟨a, ws, rfl, hr, hs, hk⟩ := elemsL_kp c hl
    exact ⟨a, rfl, ⟨ws, hs⟩, k _ (wk_list hr fun R' H' q => hk _ _ R' H' q)⟩
  cases s with
  | lst ss => exact .inl (lists hq)
  | ins _ _ _ => exact .inl (lists hq)
  | fz d =>
    cases d with
    | tup ds =>
      cases hq
      obtain ⟨a, ws, rfl, hr, hs, hk⟩ := elemsT_kp c
      exact .inr (.inl ⟨a, rfl, ⟨ws, hs⟩, k _ (wk_tup hr fun R' H' q => hk _ _ R' H' q)⟩)
    | str x =>
      cases hq
      have := c.top
      cases this
      exact .inr (.inr ⟨x, rfl, k _ wk_str⟩)
    | lst _ => exact .inl (lists hq)
    | non => exact .inl (lists hq)
    | bl _ => exact .inl (lists hq)
    | int _ => exact .inl (lists hq)
    | obj _ _ _ => exact .inl (lists hq)
def rangeD (lo : Int) (n : Nat) : List Dt := (List.range n).map fun k : Nat => Dt.int (lo + (k : Int))
def small62 (i : Int) : Bool := decide (-(2 ^ 62) ≤ i ∧ i < 2 ^ 62)
@[simp] def gR1 : List Sv → Option (List Dt)
  | [.fz (.int j)] => if small62 j then some (rangeD 0 j.toNat) else none
  | _ => none
@[simp] def gR2 : List Sv → Option (List Dt)
  | [.fz (.int i), .fz (.int j)] => if small62 i && small62 j then some (rangeD i (j - i).toNat) else none
  | _ => none
def gDown : List Sv → Option (List Dt)
  | [.fz (.int i), .fz (.int j), .fz (.int (-1))] => if small62 i && small62 j then some ((List.range (i - j).toNat).map fun k : Nat => Dt.int (i + (k : Int) * (-1))) else none
  | _ => none
@[simp] def gEnum : List Sv → Option (List Dt)
  | [s] => (elemsL s).map enumD
  | _ => none
@[simp] def gZip : List Sv → Option (List Dt)
  | [s, u] => (elemsL s).bind fun a => (elemsL u).map fun b => zipD a b
  | _ => none
@[simp] def gRev : List Sv → Option (List Dt)
  | [s] => (elemsL s).map List.reverse
  | _ => none
theorem AR.mono {G : Gd} {Z : Zn} {f : Ax} {σ : L2.St} {H : Hp} {Q Q' : List V → Hp → Prop} (h : AR G Z W f σ H Q) (i : ∀ v H, Q v H → Q' v H) : AR G Z W f σ H Q' := by
  obtain ⟨R, ts, vs, env, c, h⟩ := h
  refine ⟨R, ts, vs, env, c, ?_⟩
  revert h
  generalize f env = r
  intro h
  match r, h with
  | .ok (a, e), h => exact fun v R' H' x => i _ _ (h v R' H' x)
  | .exc x e, h => exact h
theorem small62_ok {i : Int} (h : small62 i = true) : -(2 ^ 62) ≤ i ∧ i < 2 ^ 62 := of_decide_eq_true h
theorem Cfg.int1 {G : Gd} {Z : Zn} {R H : Hp} {i : Int} {ws : List V} {ts : List Sv} {vs : List V} {env : Env} {σ : L2.St} (c : Cfg G Z R H ([.fz (.int i)] ++ ts) (ws ++ vs) env σ) (hl : [Sv.fz (.int i)].length = ws.length) : ws = [.int i] := by
  match ws, hl with
  | [w], _ =>
    have := Cfg.top (d := .int i) (v := w) c
    cases this
    rfl
theorem Cfg.int2 {G : Gd} {Z : Zn} {R H : Hp} {i j : Int} {ws : List V} {ts : List Sv} {vs : List V} {env : Env} {σ : L2.St} (c : Cfg G Z R H ([.fz (.int i), .fz (.int j)] ++ ts) (ws ++ vs) env σ) (hl : [Sv.fz (.int i), .fz (.int j)].length = ws.length) : ws = [.int i, .int j] := by
  match ws, hl with
  | [w, u], _ =>
    have e1 := Cfg.top (d := .int i) (v := w) (ts := .fz (.int j) :: ts) (vs := u :: vs) c
    have e2 := Cfg.top2 (s := .fz (.int i)) (d := .int j) (v' := w) (v := u) (ts := ts) (vs := vs) c
    cases e1
    cases e2
    rfl
theorem vi_range1 {a : Expr} {fA : Ax} {p pos : Pos} (hg : Gl X "range") (hm : X.mg "range" = none) (ha : VA C X W [a] fA) (hs : starEach [a] X.env = [(false, eval a X.env)] := by rfl) : VI C X W tg (.Call (.Name "range" p) [a] [] pos) fA gR1 := by
  refine ⟨fun Z => pi_imp (pi_range1 hg hm (ha.run Z) hs) fun σ H Rk h => (ir_args h).mono fun ws H1 ⟨R1, ts, vs, ss, e1, items, c, hl, hq, k⟩ => ?_⟩
  unfold gR1 at hq
  split at hq
  · rename_i j
    split at hq
    · rename_i hj
      cases hq
      cases c.int1 hl
      obtain ⟨h1, h2⟩ := small62_ok hj
      exact ⟨j, rfl, h1, h2, k _ wk_range⟩
    · cases hq
  · cases hq
theorem vi_range2 {a b : Expr} {fA : Ax} {p pos : Pos} (hg : Gl X "range") (hm : X.mg "range" = none) (ha : VA C X W [a, b] fA) (hs : starEach [a, b] X.env = [(false, eval a X.env), (false, eval b X.env)] := by rfl) (hs2 : starEach [b] X.env = [(false, eval b X.env)] := by rfl) : VI C X W tg (.Call (.Name "range" p) [a, b] [] pos) fA gR2 := by
  refine ⟨fun Z => pi_imp (pi_range2 hg hm (ha.run Z) hs hs2) fun σ H Rk h => (ir_args h).mono fun ws H1 ⟨R1, ts, vs, ss, e1, items, c, hl, hq, k⟩ => ?_⟩
  unfold gR2 at hq
  split at hq
  · rename_i i j
    split at hq
    · rename_i hj
      cases hq
      cases c.int2 hl
      obtain ⟨h0, h0'⟩ := Bool.and_eq_true_iff.mp hj
      obtain ⟨h1, h2⟩ := small62_ok h0
      obtain ⟨h3, h4⟩ := small62_ok h0'
      exact ⟨i, j, rfl, ⟨h1, h2, h3, h4⟩, k _ wk_range⟩
    · cases hq
  · cases hq
theorem vi_enum {elts : List Expr} {kk : Nat} {tpos : Pos} {a : Expr} {fA : Ax} {p pos : Pos} (hg : Gl X "enumerate") (hm : X.mg "enumerate" = none) (ha : VA C X W [a] fA) (hs : starEach [a] X.env = [(false, eval a X.env)] := by rfl) : VI C X W (.Tuple elts kk tpos) (.Call (.Name "enumerate" p) [a] [] pos) fA gEnum := by
  refine ⟨fun Z => pi_imp (pi_enum hg hm (ha.run Z) hs) fun σ H Rk h => (ir_args h).mono fun ws H1 ⟨R1, ts, vs, ss, e1, items, c, hl, hq, k⟩ => ?_⟩
  unfold gEnum at hq
  split at hq
  · rename_i s
    match ws, hl with
    | [w], _ =>
      cases he : elemsL s with
      | none => rw [he] at hq; cases hq
      | some ds =>
        rw [he] at hq
        cases hq
        obtain ⟨a, us, rfl, hr, hs, hk⟩ := elemsL_kp c he
        exact ⟨a, us, rfl, hs, k _ (wk_enum hr fun R' H' q => hk _ _ R' H' q)⟩
  · cases hq
theorem vi_rev {a : Expr} {fA : Ax} {p pos : Pos} (hg : Gl X "reversed") (hm : X.mg "reversed" = none) (ha : VA C X W [a] fA) (hs : starEach [a] X.env = [(false, eval a X.env)] := by rfl) : VI C X W tg (.Call (.Name "reversed" p) [a] [] pos) fA gRev := by
  refine ⟨fun Z => pi_imp (pi_reversed hg hm (ha.run Z) hs) fun σ H Rk h => (ir_args h).mono fun ws H1 ⟨R1, ts, vs, ss, e1, items, c, hl, hq, k⟩ => ?_⟩
  unfold gRev at hq
  split at hq
  · rename_i s
    match ws, hl with
    | [w], _ =>
      cases he : elemsL s with
      | none => rw [he] at hq; cases hq
      | some ds =>
        rw [he] at hq
        cases hq
        obtain ⟨a, us, rfl, hr, hs, hk⟩ := elemsL_kp c he
        exact ⟨a, us, rfl, hs, k _ (wk_rev hr fun R' H' q => hk _ _ R' H' q)⟩
  · cases hq
theorem Kp.tail {R0 H0 : Hp} {s : Sv} {w : V} {ss : List Sv} {ws : List V} {R H : Hp} (k : Kp R0 H0 (s :: ss) (w :: ws) R H) : Kp R0 H0 ss ws R H := ⟨k.rs, k.sub, fun n l a h1 h2 => k.at_ (n + 1) l a (by simpa using h1) (by simpa using h2)⟩
theorem vi_zip {elts : List Expr} {kk : Nat} {tpos : Pos} {a b : Expr} {fA : Ax} {p pos : Pos} (hg : Gl X "zip") (hm : X.mg "zip" = none) (ha : VA C X W [a, b] fA) (hs : starEach [a, b] X.env = (false, eval a X.env) :: starEach [b] X.env := by rfl) (hpl : (backTo pos (starEach [b] X.env)).any (·.1) = false := by rfl) : VI C X W (.Tuple elts kk tpos) (.Call (.Name "zip" p) [a, b] [] pos) fA gZip := by
  refine ⟨fun Z => pi_imp (pi_zip hg hm (ha.run Z) hs hpl) fun σ H Rk h => (ir_args h).mono fun ws H1 ⟨R1, ts, vs, ss, e1, items, c, hl, hq, k⟩ => ?_⟩
  unfold gZip at hq
  split at hq
  · rename_i s u
    match ws, hl with
    | [w, w2], _ =>
      cases he : elemsL s with
      | none => rw [he] at hq; cases hq
      | some ds =>
        cases he2 : elemsL u with
        | none => rw [he, he2] at hq; cases hq
        | some es =>
          rw [he, he2] at hq
          cases hq
          obtain ⟨a, us, rfl, hr, hs, hk⟩ := elemsL_kp c he
          obtain ⟨b, us2, rfl, hr2, hs2, hk2⟩ := elemsL_kp (Cfg.pop c) he2
          exact ⟨a, b, us, us2, rfl, hs, hs2, k _ (wk_zip hr hr2 (fun R' H' q => hk _ _ R' H' q) fun R' H' q => hk2 _ _ R' H' q.tail)⟩
  · cases hq
end
end Fw
set_option Elab.async false
set_option linter.all false
set_option maxRecDepth 100000
set_option maxHeartbeats 1000000
/-! What the operators and the built-ins do to values without a heap. -/
namespace Fw
open PySem PySem.Spec PyProof.Rows L2

abbrev Bf := List Sv → Option (Sv × List Sv)
/-- two arguments, which stay -/
@[simp] def keep2 (g : Sv → Sv → Option Sv) : Bf := fun ss => match ss with
  | [s, u] => (g s u).map fun r => (r, [s, u])
  | _ => none
@[simp] def keep1 (g : Sv → Option Sv) : Bf := fun ss => match ss with
  | [s] => (g s).map fun r => (r, [s])
  | _ => none
section
variable {G : Gd}
theorem srv2 {r : R2} {g : Sv → Sv → Option Sv} (h : ∀ Z R H s u x y ts vs env σ w Q, Cfg G Z R H (s :: u :: ts) (x :: y :: vs) env σ → g s u = some w →
    (∀ v R' H', Cfg G Z R' H' (w :: s :: u :: ts) (v :: x :: y :: vs) env σ → Q v H') → r x y H Q) : Srv G (r2l r) (keep2 g) := by
  intro Z R H ss ws ts vs env σ s ss' Q hl c hg _ q
  obtain ⟨s1, s2, rfl⟩ : ∃ s1 s2, ss = [s1, s2] := by
    unfold keep2 at hg
    split at hg
    · exact ⟨_, _, rfl⟩
    · cases hg
  match ws, hl with
  | [x, y], _ =>
    have hg : (g s1 s2).map (fun r => (r, [s1, s2])) = some (s, ss') := hg
    cases he : g s1 s2 with
    | none => rw [he] at hg; cases hg
    | some w =>
      rw [he] at hg
      cases hg
      exact h Z R H s1 s2 x y ts vs env σ _ Q c he q
theorem srv1 {r : List V → Hp → VK → Prop} {g : Sv → Option Sv} (h : ∀ Z R H s x ts vs env σ w Q, Cfg G Z R H (s :: ts) (x :: vs) env σ → g s = some w →
    (∀ v R' H', Cfg G Z R' H' (w :: s :: ts) (v :: x :: vs) env σ → Q v H') → r [x] H Q) : Srv G r (keep1 g) := by
  intro Z R H ss ws ts vs env σ s ss' Q hl c hg _ q
  obtain ⟨s1, rfl⟩ : ∃ s1, ss = [s1] := by
    unfold keep1 at hg
    split at hg
    · exact ⟨_, rfl⟩
    · cases hg
  match ws, hl with
  | [x], _ =>
    have hg : (g s1).map (fun r => (r, [s1])) = some (s, ss') := hg
    cases he : g s1 with
    | none => rw [he] at hg; cases hg
    | some w =>
      rw [he] at hg
      cases hg
      exact h Z R H s1 x ts vs env σ _ Q c he q

/-! ### ints -/
@[simp] def i2 (p : Int → Int → Bool) (f : Int → Int → Dt) : Sv → Sv → Option Sv
  | .fz (.int i), .fz (.int j) => if p i j then some (.fz (f i j)) else none
  | _, _ => none
theorem srv_i2 {p : Int → Int → Bool} {f : Int → Int → Dt} {r : R2} (v : Int → Int → V) (hv : ∀ R i j, RpD G R (f i j) (v i j)) (hr : ∀ i j H Q, p i j = true → Q (v i j) H → r (.int i) (.int j) H Q) : Srv G (r2l r) (keep2 (i2 p f)) := by
  refine srv2 fun Z R H s u x y ts vs env σ w Q c hg q => ?_
  unfold i2 at hg
  split at hg
  · rename_i i j
    split at hg
    · rename_i hp
      cases hg
      have e1 := c.top
      have e2 := c.top2
      cases e1
      cases e2
      exact hr i j H Q hp (q _ R H (c.push (hv R i j)))
    · cases hg
  · cases hg
@[simp] def pT : Int → Int → Bool := fun _ _ => true
@[simp] def gSub : Bf := keep2 (i2 pT fun i j => .int (i - j))
@[simp] def pMul (i j : Int) : Bool := decide ((-(2 ^ 64) < i ∧ i < 2 ^ 64) ∨ (-(2 ^ 64) < j ∧ j < 2 ^ 64))
@[simp] def gMul : Bf := keep2 (i2 pMul fun i j => .int (i * j))
@[simp] def pDiv (_ j : Int) : Bool := decide (j ≠ 0 ∧ j.natAbs < 1073741824)
@[simp] def gDiv : Bf := keep2 (i2 pDiv fun i j => .int (i.fdiv j))
@[simp] def pMod (_ j : Int) : Bool := decide (j ≠ 0)
@[simp] def gMod : Bf := keep2 (i2 pMod fun i j => .int (i.fmod j))
@[simp] def pPow (i j : Int) : Bool := decide (0 ≤ j ∧ j ≤ 1000000 ∧ i.natAbs < 2 ^ 64)
@[simp] def gPow : Bf := keep2 (i2 pPow fun i j => .int (i ^ j.toNat))
@[simp] def gShl : Bf := keep2 (i2 pPow fun i j => .int (i * 2 ^ j.toNat))
@[simp] def pShr (_ j : Int) : Bool := decide (0 ≤ j)
@[simp] def gShr : Bf := keep2 (i2 pShr fun i j => .int (i / 2 ^ j.toNat))
@[simp] def gAnd : Bf := keep2 (i2 pT fun i j => .int (Builtin.bitAnd i j))
@[simp] def gOr : Bf := keep2 (i2 pT fun i j => .int (Builtin.bitOr i j))
@[simp] def gXor : Bf := keep2 (i2 pT fun i j => .int (Builtin.bitXor i j))
@[simp] def gLt : Bf := keep2 (i2 pT fun i j => .bl (decide (i < j)))
@[simp] def gLe : Bf := keep2 (i2 pT fun i j => .bl (decide (i ≤ j)))
@[simp] def gGt : Bf := keep2 (i2 pT fun i j => .bl (decide (j < i)))
@[simp] def gGe : Bf := keep2 (i2 pT fun i j => .bl (decide (j ≤ i)))
theorem srv_sub : Srv G (r2l (rI0 fun i j => .int (i - j))) gSub := srv_i2 (fun i j => .int (i - j)) (fun _ _ _ => rfl) fun i j H Q _ q => ⟨i, j, rfl, rfl, q⟩
theorem srv_mul : Srv G (r2l (rI CMul fun i j => .int (i * j))) gMul := srv_i2 (fun i j => .int (i * j)) (fun _ _ _ => rfl) fun i j H Q hp q => ⟨i, j, rfl, rfl, (of_decide_eq_true hp : (-(2 ^ 64) < i ∧ i < 2 ^ 64) ∨ (-(2 ^ 64) < j ∧ j < 2 ^ 64)), q⟩
theorem srv_div : Srv G (r2l (rI CDivN fun i j => .int (i.fdiv j))) gDiv := srv_i2 (fun i j => .int (i.fdiv j)) (fun _ _ _ => rfl) fun i j H Q hp q => ⟨i, j, rfl, rfl, (of_decide_eq_true hp : j ≠ 0 ∧ j.natAbs < 1073741824), q⟩
theorem srv_mod : Srv G (r2l (rI (fun _ j => j ≠ 0) fun i j => .int (i.fmod j))) gMod := srv_i2 (fun i j => .int (i.fmod j)) (fun _ _ _ => rfl) fun i j H Q hp q => ⟨i, j, rfl, rfl, of_decide_eq_true hp, q⟩
theorem srv_pow : Srv G (r2l (rI CPow fun i j => .int (i ^ j.toNat))) gPow := srv_i2 (fun i j => .int (i ^ j.toNat)) (fun _ _ _ => rfl) fun i j H Q hp q => ⟨i, j, rfl, rfl, (of_decide_eq_true hp : 0 ≤ j ∧ j ≤ 1000000 ∧ i.natAbs < 2 ^ 64), q⟩
theorem srv_shl : Srv G (r2l (rI CPow fun i j => .int (i * 2 ^ j.toNat))) gShl := srv_i2 (fun i j => .int (i * 2 ^ j.toNat)) (fun _ _ _ => rfl) fun i j H Q hp q => ⟨i, j, rfl, rfl, (of_decide_eq_true hp : 0 ≤ j ∧ j ≤ 1000000 ∧ i.natAbs < 2 ^ 64), q⟩
theorem srv_shr : Srv G (r2l (rI (fun _ j => 0 ≤ j) fun i j => .int (i / 2 ^ j.toNat))) gShr := srv_i2 (fun i j => .int (i / 2 ^ j.toNat)) (fun _ _ _ => rfl) fun i j H Q hp q => ⟨i, j, rfl, rfl, of_decide_eq_true hp, q⟩
theorem srv_and : Srv G (r2l (rI0 fun i j => .int (Builtin.bitAnd i j))) gAnd := srv_i2 (fun i j => .int (Builtin.bitAnd i j)) (fun _ _ _ => rfl) fun i j H Q hp q => ⟨i, j, rfl, rfl, q⟩
theorem srv_or : Srv G (r2l (rI0 fun i j => .int (Builtin.bitOr i j))) gOr := srv_i2 (fun i j => .int (Builtin.bitOr i j)) (fun _ _ _ => rfl) fun i j H Q hp q => ⟨i, j, rfl, rfl, q⟩
theorem srv_xor : Srv G (r2l (rI0 fun i j => .int (Builtin.bitXor i j))) gXor := srv_i2 (fun i j => .int (Builtin.bitXor i j)) (fun _ _ _ => rfl) fun i j H Q hp q => ⟨i, j, rfl, rfl, q⟩
theorem srv_lt : Srv G (r2l (rI0 fun i j => .bl (decide (i < j)))) gLt := srv_i2 (fun i j => .bl (decide (i < j))) (fun _ _ _ => rfl) fun i j H Q hp q => ⟨i, j, rfl, rfl, q⟩
theorem srv_le : Srv G (r2l (rI0 fun i j => .bl (decide (i ≤ j)))) gLe := srv_i2 (fun i j => .bl (decide (i ≤ j))) (fun _ _ _ => rfl) fun i j H Q hp q => ⟨i, j, rfl, rfl, q⟩
theorem srv_gt : Srv G (r2l (rI0 fun i j => .bl (decide (j < i)))) gGt := srv_i2 (fun i j => .bl (decide (j < i))) (fun _ _ _ => rfl) fun i j H Q hp q => ⟨i, j, rfl, rfl, q⟩
theorem srv_ge : Srv G (r2l (rI0 fun i j => .bl (decide (j ≤ i)))) gGe := srv_i2 (fun i j => .bl (decide (j ≤ i))) (fun _ _ _ => rfl) fun i j H Q hp q => ⟨i, j, rfl, rfl, q⟩

/-! ### + -/
@[simp] def addS : Sv → Sv → Option Sv
  | .fz (.int i), .fz (.int j) => some (.fz (.int (i + j)))
  | .fz (.str a), .fz (.str b) => if a.length + b.length ≤ sizeLine then some (.fz (.str (a ++ b))) else none
  | .fz (.tup a), .fz (.tup b) => if a.length + b.length ≤ sizeLine then some (.fz (.tup (a ++ b))) else none
  | s, u => (elemsL s).bind fun a => (elemsL u).bind fun b => if a.length + b.length ≤ sizeLine then some (.lst ((a ++ b).map .fz)) else none
@[simp] def gAdd : Bf := keep2 addS
end
section
variable {X : Cx}
/-- lists, whatever they are -/
def rCatL (K : PySem.W.Frag) : R2 := fun x y H Q => ∃ l b xs zs, x = .ref l ∧ y = .ref b ∧ SqL K H l xs ∧ SqL K H b zs ∧ xs.length + zs.length ≤ sizeLine ∧ ∀ p, H p = none → Q (.ref p) (upd H p (.lst (xs ++ zs)))
theorem op_catL : OpR X (binaryOp .Add) (rCatL X.K) := by
  intro pins s σ H x y v u Q I rx ry h
  obtain ⟨l, b, xs, zs, rfl, rfl, hH, hB, hz, q⟩ := h
  cases rx
  cases ry
  obtain ⟨its, r, p1, _⟩ := I.list hH
  obtain ⟨its2, r2, p2, _⟩ := I.list hB
  obtain ⟨⟨cls, dd, data, sl⟩, n, ho, hc, hdn, hd⟩ := p1
  obtain ⟨⟨cls2, dd2, data2, sl2⟩, n2, ho2, hc2, hdn2, hd2⟩ := p2
  simp only at hc hd hc2 hd2
  subst hc hd hc2 hd2
  have e : its.toArray ++ its2.toArray = (its ++ its2).toArray := by simp
  refine concat_meets ⟨_, ho, rfl⟩ ⟨_, ho2, rfl⟩ noFill_list_add seq_list_add PySem.F.slot_list_add PySem.F.entry_list_add (PySem.F.args_list_add_2 _ _) (list_addW l b its.toArray its2.toArray n n2 dd dd2 sl sl2 (by rw [List.size_toArray, List.size_toArray, ← r.length, ← r2.length]; exact hz)) ⟨ho, ho2, ?_⟩
  rw [e]
  exact ⟨.ref _, _, I.lnew (t' := s.toks) (r.append r2) (by rw [List.length_append]; exact hz), rfl, q _ I.fresh⟩
def rAdd (K : PySem.W.Frag) : R2 := fun x y H Q => (rI0 fun i j => .int (i + j)) x y H Q ∨ (∃ i j, x = .str i ∧ y = .str j ∧ i.length + j.length ≤ sizeLine ∧ Q (.str (i ++ j)) H) ∨ rCatA K x y H Q ∨ rCatL K x y H Q
theorem op_addS : OpR X (binaryOp .Add) (rAdd X.K) := by
  intro pins s σ H x y v u Q I rx ry h
  rcases h with h | h | h | h
  · exact op_add pins s σ H x y v u Q I rx ry h
  · exact op_add_str pins s σ H x y v u Q I rx ry h
  · exact op_catA pins s σ H x y v u Q I rx ry h
  · exact op_catL pins s σ H x y v u Q I rx ry h
end
section
variable {G : Gd}
theorem RpDs.append {R : Hp} : ∀ {a b : List Dt} {v u : List V}, RpDs G R a v → RpDs G R b u → RpDs G R (a ++ b) (v ++ u)
  | [], b, v, u, h, h2 => by
    have : v = [] := h
    subst this
    exact h2
  | d :: a, b, _, u, ⟨v, vr, e, h, r⟩, h2 => by
    subst e
    exact ⟨v, vr ++ u, rfl, h, RpDs.append r h2⟩
/-- a new list of frozen things -/
theorem Cfg.newFz {Z : Zn} {R H : Hp} {ts : List Sv} {vs : List V} {env : Env} {σ : L2.St} {p : Addr} {ds : List Dt} {ws : List V} (c : Cfg G Z R H ts vs env σ) (hr : RpDs G R ds ws) (hp : H p = none) : Cfg G Z R (upd H p (.lst ws)) (.lst (ds.map .fz) :: ts) (.ref p :: vs) env σ := by
  have h : ∀ {ds : List Dt} {ws : List V}, RpDs G R ds ws → RpSs G R H (ds.map .fz) ws fun _ => 0 := by
    intro ds
    induction ds with
    | nil => intro ws h; exact ⟨h, fun _ => rfl⟩
    | cons d ds ih => rintro ws ⟨v, vr, e, h, r⟩; exact ⟨v, vr, fun _ => 0, fun _ => 0, e, ⟨h, fun _ => rfl⟩, ih r, fun _ => rfl⟩
  refine Cfg.newLst (ss := ds.map .fz) (ws := ws) (by rw [List.length_map, hr.len]) (c.reord fun g hg => ⟨_, RpSs.join hg (h hr), fun b => ?_⟩) hp
  show 0 + g b ≤ g b
  omega
theorem srv_add : Srv G (r2l (rAdd G.K)) gAdd := by
  refine srv2 fun Z R H s u x y ts vs env σ w Q c hg q => ?_
  have lists : ((elemsL s).bind fun a => (elemsL u).bind fun b => if a.length + b.length ≤ sizeLine then some (Sv.lst ((a ++ b).map .fz)) else none) = some w → rAdd G.K x y H Q := fun hg => by
    cases h1 : elemsL s with
    | none => rw [h1] at hg; cases hg
    | some a =>
      cases h2 : elemsL u with
      | none => rw [h1, h2] at hg; cases hg
      | some b =>
        rw [h1, h2] at hg
        have hg : (if a.length + b.length ≤ sizeLine then some (Sv.lst ((a ++ b).map .fz)) else none) = some w := hg
        split at hg
        · rename_i hz
          cases hg
          obtain ⟨l, ws, rfl, r1, s1, _⟩ := elemsL_kp c h1
          obtain ⟨l2, ws2, rfl, r2, s2, _⟩ := elemsL_kp (Cfg.pop c) h2
          exact .inr (.inr (.inr ⟨l, l2, ws, ws2, rfl, rfl, s1, s2, by rw [← r1.len, ← r2.len]; exact hz, fun p hp => q _ _ _ (c.newFz (r1.append r2) hp)⟩))
        · cases hg
  unfold addS at hg
  split at hg
  · rename_i i j
    cases hg
    have e1 := c.top
    have e2 := c.top2
    cases e1
    cases e2
    exact .inl ⟨i, j, rfl, rfl, q _ _ _ (c.push rfl)⟩
  · rename_i a b
    split at hg
    · rename_i hz
      cases hg
      have e1 := c.top
      have e2 := c.top2
      cases e1
      cases e2
      exact .inr (.inl ⟨a, b, rfl, rfl, hz, q _ _ _ (c.push rfl)⟩)
    · cases hg
  · rename_i a b
    split at hg
    · rename_i hz
      cases hg
      obtain ⟨l, ws, rfl, h1, r1⟩ := c.top
      obtain ⟨l2, ws2, rfl, h2, r2⟩ := c.top2
      refine .inr (.inr (.inl ⟨l, l2, ws, ws2, rfl, rfl, sqT_mono c.wf h1, sqT_mono c.wf h2, by rw [← r1.len, ← r2.len]; exact hz, fun e => ?_, fun e1 e2 => ?_, fun e1 e2 p hp => ?_⟩))
      · subst e
        have : a = [] := List.length_eq_zero_iff.mp r1.len
        subst this
        exact q _ _ _ (c.push ⟨l2, ws2, rfl, h2, r2⟩)
      · subst e2
        have : b = [] := List.length_eq_zero_iff.mp r2.len
        subst this
        rw [List.append_nil] at q
        exact q _ _ _ (c.push ⟨l, ws, rfl, h1, r1⟩)
      · obtain ⟨c2, e3⟩ := c.grow (.tup (ws ++ ws2)) hp
        exact q _ _ _ (c2.push ⟨p, ws ++ ws2, rfl, .inl (.inl upd_same), (r1.append r2).mono e3⟩)
    · cases hg
  · exact lists hg
end
end Fw
set_option Elab.async false
set_option linter.all false
set_option maxRecDepth 100000
set_option maxHeartbeats 1000000
/-! ==, in, len, subscripts, slices, sums, lists and their methods. -/
namespace Fw
open PySem PySem.Spec PyProof.Rows L2

mutual
def Dt.py : Dt → PyData
  | .non => .none
  | .bl b => .bool b
  | .int i => .int i
  | .str x => .str x
  | .tup ds => .tuple (pys ds)
  | .lst ds => .list (pys ds)
  | .obj _ _ _ => .dict []
def pys : List Dt → List PyData
  | [] => []
  | d :: ds => d.py :: pys ds
end
@[simp] def datOf : Sv → Option Dt
  | .fz d => some d
  | .lst ss => (allFz ss).map .lst
  | .ins _ _ _ => none
def okD (d : Dt) : Bool := SeqAt.shaped d.py
section
variable {G : Gd}
theorem shaped_nodict {ds : List (PyData × PyData)} : PyData.canLay0 (.dict ds) = false := by simp [PyData.canLay0]
mutual
theorem dp_of {K : PySem.W.Frag} {P w C} {R H : Hp} (e : Same R H) : ∀ {d : Dt} {v : V}, d.py.canLay0 = true → RpD ⟨P, w, K, C⟩ R d v → Dp K H v d.py
  | .non, _, _, h => by cases h; exact .non
  | .bl b, _, _, h => by cases h; exact .bl b
  | .int i, _, _, h => by cases h; exact .int i
  | .str x, _, _, h => by cases h; exact .str x
  | .tup ds, _, q, ⟨a, vs, e1, h, r⟩ => by subst e1; exact .tup (sqT_mono e h) (dps_of e (by simpa [Dt.py, PyData.canLay0] using q) r)
  | .lst ds, _, q, ⟨a, vs, e1, h, r⟩ => by subst e1; exact .lst (e.seq h) (dps_of e (by simpa [Dt.py, PyData.canLay0] using q) r)
  | .obj _ _ _, _, q, _ => by rw [Dt.py, shaped_nodict] at q; cases q
theorem dps_of {K : PySem.W.Frag} {P w C} {R H : Hp} (e : Same R H) : ∀ {ds : List Dt} {vs : List V}, PyData.canLayAll0 (pys ds) = true → RpDs ⟨P, w, K, C⟩ R ds vs → DpAll K H vs (pys ds)
  | [], _, _, h => by cases h; exact .nil
  | d :: ds, _, q, ⟨v, vr, e1, h, r⟩ => by
    subst e1
    simp only [pys, PyData.canLayAll0, Bool.and_eq_true] at q
    exact .cons (dp_of e q.1 h) (dps_of e q.2 r)
end
theorem datOf_ok {Z : Zn} {R H : Hp} {s : Sv} {v : V} {d : Dt} {ts : List Sv} {vs : List V} {env : Env} {σ : L2.St} (c : Cfg G Z R H (s :: ts) (v :: vs) env σ) (h : datOf s = some d) (q : okD d = true) : Dp G.K H v d.py := by
  have q1 := SeqAt.canLay_of_shaped q
  have sub := c.wf
  obtain ⟨f, r⟩ := c.topS
  cases s with
  | ins _ _ _ => cases h
  | fz d' => cases h; exact dp_of sub q1 r.1
  | lst ss =>
    obtain ⟨a, ws, g, rfl, ha, hs, _⟩ := r
    have h : (allFz ss).map Dt.lst = some d := h
    cases hq : allFz ss with
    | none => rw [hq] at h; cases h
    | some l =>
      rw [hq] at h
      cases h
      exact .lst (.inl (.inl ha)) (dps_of sub (by simpa [Dt.py, PyData.canLay0] using q1) (allFz_ok hq hs))
@[simp] def cmp2 (f : Dt → Dt → Option Bool) : Sv → Sv → Option Sv := fun s u => (datOf s).bind fun d => (datOf u).bind fun e => (f d e).map fun b => .fz (.bl b)
def eqD (d e : Dt) : Option Bool := if okD d && okD e then some (PyData.eqv d.py e.py) else none
def neD (d e : Dt) : Option Bool := if okD d && okD e then some (!PyData.eqv d.py e.py) else none
@[simp] def gEq : Bf := keep2 (cmp2 eqD)
@[simp] def gNe : Bf := keep2 (cmp2 neD)
theorem srv_cmp2 {f : Dt → Dt → Option Bool} {r : R2} (h : ∀ Z R H s u x y ts vs env σ d e b Q, Cfg G Z R H (s :: u :: ts) (x :: y :: vs) env σ → datOf s = some d → datOf u = some e → f d e = some b → Q (.bl b) H → r x y H Q) : Srv G (r2l r) (keep2 (cmp2 f)) := by
  refine srv2 fun Z R H s u x y ts vs env σ w Q c hg q => ?_
  unfold cmp2 at hg
  cases h1 : datOf s with
  | none => rw [h1] at hg; cases hg
  | some d =>
    cases h2 : datOf u with
    | none => rw [h1, h2] at hg; cases hg
    | some e =>
      rw [h1, h2] at hg
      have hg : (f d e).map (fun b => Sv.fz (.bl b)) = some w := hg
      cases h3 : f d e with
      | none => rw [h3] at hg; cases hg
      | some b =>
        rw [h3] at hg
        cases hg
        exact h Z R H s u x y ts vs env σ d e b Q c h1 h2 h3 (q _ R H (c.push rfl))
theorem srv_eq : Srv G (r2l (rEqD G.K)) gEq := srv_cmp2 fun Z R H s u x y ts vs env σ d e b Q c h1 h2 h3 q => by
  unfold eqD at h3
  split at h3
  · rename_i ho
    cases h3
    obtain ⟨o1, o2⟩ := Bool.and_eq_true_iff.mp ho
    exact ⟨_, _, datOf_ok c h1 o1, datOf_ok (Cfg.pop c) h2 o2, o1, o2, q⟩
  · cases h3
theorem srv_ne : Srv G (r2l (rNeD G.K)) gNe := srv_cmp2 fun Z R H s u x y ts vs env σ d e b Q c h1 h2 h3 q => by
  unfold neD at h3
  split at h3
  · rename_i ho
    cases h3
    obtain ⟨o1, o2⟩ := Bool.and_eq_true_iff.mp ho
    exact ⟨_, _, datOf_ok c h1 o1, datOf_ok (Cfg.pop c) h2 o2, o1, o2, q⟩
  · cases h3
/-- in: a list, a tuple, or a text that has one sign -/
def inD (d e : Dt) : Option Bool := match e with
  | .lst ds => if okD d && okD e then some ((pys ds).any fun z => PyData.eqv z d.py) else none
  | .tup ds => if okD d && okD e then some ((pys ds).any fun z => PyData.eqv z d.py) else none
  | .str y => match d with
    | .str x => if x.cps.size = 1 then some (decide (x.cps.getD 0 0 ∈ y.cps.toList)) else none
    | _ => none
  | _ => none
def gIn : Bf := keep2 (cmp2 inD)
def gNotIn : Bf := keep2 (cmp2 fun d e => (inD d e).map (!·))
end
section
variable {X : Cx}
def rInA (K : PySem.W.Frag) : R2 := fun x y H Q => rInD K x y H Q ∨ (∃ d ds, Dp K H x d ∧ Dp K H y (.tuple ds) ∧ SeqAt.shaped d = true ∧ SeqAt.shaped (.tuple ds) = true ∧ Q (.bl (ds.any fun z => PyData.eqv z d)) H) ∨ (∃ (c : Nat) (z : Str), x = .str ⟨#[c]⟩ ∧ y = .str z ∧ Q (.bl (decide (c ∈ z.cps.toList))) H)
def rNotInA (K : PySem.W.Frag) : R2 := fun x y H Q => rNotInD K x y H Q ∨ (∃ d ds, Dp K H x d ∧ Dp K H y (.tuple ds) ∧ SeqAt.shaped d = true ∧ SeqAt.shaped (.tuple ds) = true ∧ Q (.bl (!ds.any fun z => PyData.eqv z d)) H) ∨ (∃ (c : Nat) (z : Str), x = .str ⟨#[c]⟩ ∧ y = .str z ∧ Q (.bl (!decide (c ∈ z.cps.toList))) H)
theorem op_inA (hu : X.A.units + 65 < cLine) : OpR X (compareOp .In) (rInA X.K) := by
  intro pins s σ H x y v u Q I rx ry h
  rcases h with h | h | h
  · exact op_inD hu pins s σ H x y v u Q I rx ry h
  · obtain ⟨d, ds, hd, he, sd, se, q⟩ := h
    obtain ⟨as, r1⟩ := Dp.reads I d x v hd rx
    obtain ⟨bs, r2⟩ := Dp.reads I (.tuple ds) y u he ry
    exact SeqAt.in_tuple_reads r2 r1 (SeqAt.canLay_of_shaped se) (SeqAt.canLay_of_shaped sd) (room_in_shaped sd hu) ⟨.bl _, H, I, rfl, q⟩
  · exact op_in_sign pins s σ H x y v u Q I rx ry h
theorem op_notInA (hu : X.A.units + 65 < cLine) : OpR X (compareOp .NotIn) (rNotInA X.K) := by
  intro pins s σ H x y v u Q I rx ry h
  rcases h with h | h | h
  · exact op_notInD hu pins s σ H x y v u Q I rx ry h
  · obtain ⟨d, ds, hd, he, sd, se, q⟩ := h
    obtain ⟨as, r1⟩ := Dp.reads I d x v hd rx
    obtain ⟨bs, r2⟩ := Dp.reads I (.tuple ds) y u he ry
    exact SeqAt.notIn_tuple_reads r2 r1 (SeqAt.canLay_of_shaped se) (SeqAt.canLay_of_shaped sd) (room_in_shaped sd hu) ⟨.bl _, H, I, rfl, q⟩
  · exact op_notIn_sign pins s σ H x y v u Q I rx ry h
end
section
variable {G : Gd}
theorem str_one {x : Str} (h : x.cps.size = 1) : x = ⟨#[x.cps.getD 0 0]⟩ := by
  obtain ⟨⟨l⟩⟩ := x
  match l, h with
  | [c], _ => rfl
theorem datOf_str {Z : Zn} {R H : Hp} {s : Sv} {v : V} {x : Str} {ts : List Sv} {vs : List V} {env : Env} {σ : L2.St} (c : Cfg G Z R H (s :: ts) (v :: vs) env σ) (h : datOf s = some (.str x)) : v = .str x := by
  cases s with
  | ins _ _ _ => cases h
  | fz d => cases h; exact c.top
  | lst ss =>
    have h : (allFz ss).map Dt.lst = some (.str x) := h
    cases hq : allFz ss with
    | none => rw [hq] at h; cases h
    | some l => rw [hq] at h; cases h
theorem in_cases {Z : Zn} {R H : Hp} {s u : Sv} {x y : V} {ts : List Sv} {vs : List V} {env : Env} {σ : L2.St} {d e : Dt} {b : Bool} (c : Cfg G Z R H (s :: u :: ts) (x :: y :: vs) env σ) (h1 : datOf s = some d) (h2 : datOf u = some e) (h3 : inD d e = some b) :
    (∃ p ds, Dp G.K H x p ∧ Dp G.K H y (.list ds) ∧ SeqAt.shaped p = true ∧ SeqAt.shaped (.list ds) = true ∧ b = ds.any fun z => PyData.eqv z p) ∨ (∃ p ds, Dp G.K H x p ∧ Dp G.K H y (.tuple ds) ∧ SeqAt.shaped p = true ∧ SeqAt.shaped (.tuple ds) = true ∧ b = ds.any fun z => PyData.eqv z p) ∨ (∃ (c : Nat) (z : Str), x = .str ⟨#[c]⟩ ∧ y = .str z ∧ b = decide (c ∈ z.cps.toList)) := by
  unfold inD at h3
  split at h3
  · rename_i ds
    split at h3
    · rename_i ho
      cases h3
      obtain ⟨o1, o2⟩ := Bool.and_eq_true_iff.mp ho
      exact .inl ⟨d.py, pys ds, datOf_ok c h1 o1, by simpa [Dt.py] using datOf_ok (Cfg.pop c) h2 o2, o1, by simpa [okD, Dt.py] using o2, rfl⟩
    · cases h3
  · rename_i ds
    split at h3
    · rename_i ho
      cases h3
      obtain ⟨o1, o2⟩ := Bool.and_eq_true_iff.mp ho
      exact .inr (.inl ⟨d.py, pys ds, datOf_ok c h1 o1, by simpa [Dt.py] using datOf_ok (Cfg.pop c) h2 o2, o1, by simpa [okD, Dt.py] using o2, rfl⟩)
    · cases h3
  · rename_i y'
    split at h3
    · rename_i x'
      split at h3
      · rename_i hz
        cases h3
        have e1 := datOf_str c h1
        have e2 := datOf_str (Cfg.pop c) h2
        subst e1 e2
        exact .inr (.inr ⟨x'.cps.getD 0 0, y', by rw [← str_one hz], rfl, rfl⟩)
      · cases h3
    · cases h3
  · cases h3
theorem srv_in : Srv G (r2l (rInA G.K)) gIn := srv_cmp2 fun Z R H s u x y ts vs env σ d e b Q c h1 h2 h3 q => by
  rcases in_cases c h1 h2 h3 with ⟨p, ds, a1, a2, a3, a4, rfl⟩ | ⟨p, ds, a1, a2, a3, a4, rfl⟩ | ⟨k, z, rfl, rfl, rfl⟩
  · exact .inl ⟨p, ds, a1, a2, a3, a4, q⟩
  · exact .inr (.inl ⟨p, ds, a1, a2, a3, a4, q⟩)
  · exact .inr (.inr ⟨k, z, rfl, rfl, q⟩)
theorem srv_notIn : Srv G (r2l (rNotInA G.K)) gNotIn := srv_cmp2 fun Z R H s u x y ts vs env σ d e b Q c h1 h2 h3 q => by
  cases h4 : inD d e with
  | none => rw [h4] at h3; cases h3
  | some b0 =>
    rw [h4] at h3
    cases h3
    rcases in_cases c h1 h2 h4 with ⟨p, ds, a1, a2, a3, a4, rfl⟩ | ⟨p, ds, a1, a2, a3, a4, rfl⟩ | ⟨k, z, rfl, rfl, rfl⟩
    · exact .inl ⟨p, ds, a1, a2, a3, a4, q⟩
    · exact .inr (.inl ⟨p, ds, a1, a2, a3, a4, q⟩)
    · exact .inr (.inr ⟨k, z, rfl, rfl, q⟩)
/-! ### is None -/
def isNonS : Sv → Bool
  | .fz .non => true
  | _ => false
def gIsN : Bf := keep2 fun s u => match u with
  | .fz .non => some (.fz (.bl (isNonS s)))
  | _ => none
def gNotN : Bf := keep2 fun s u => match u with
  | .fz .non => some (.fz (.bl (!isNonS s)))
  | _ => none
theorem isNonS_ok {Z : Zn} {R H : Hp} {s : Sv} {v : V} {ts : List Sv} {vs : List V} {env : Env} {σ : L2.St} (c : Cfg G Z R H (s :: ts) (v :: vs) env σ) : isNonS s = decide (v = .non) := by
  obtain ⟨f, r⟩ := c.topS
  cases s with
  | ins _ _ _ => obtain ⟨a, _, _, _, rfl, _⟩ := r; rfl
  | lst ss => obtain ⟨a, _, _, rfl, _⟩ := r; rfl
  | fz d =>
    obtain ⟨r, _⟩ := r
    cases d with
    | non => cases r; rfl
    | bl _ => cases r; rfl
    | int _ => cases r; rfl
    | str _ => cases r; rfl
    | tup _ => obtain ⟨a, _, rfl, _⟩ := r; rfl
    | lst _ => obtain ⟨a, _, rfl, _⟩ := r; rfl
    | obj _ _ _ => obtain ⟨a, _, _, rfl, _⟩ := r; rfl
theorem srv_isN : Srv G (r2l fun x y H Q => y = .non ∧ Q (.bl (decide (x = .non))) H) gIsN := by
  refine srv2 fun Z R H s u x y ts vs env σ w Q c hg q => ?_
  split at hg
  · cases hg
    have := c.top2
    cases this
    rw [isNonS_ok c] at q
    exact ⟨rfl, q _ R H (c.push rfl)⟩
  · cases hg
theorem srv_notN : Srv G (r2l fun x y H Q => y = .non ∧ Q (.bl (!decide (x = .non))) H) gNotN := by
  refine srv2 fun Z R H s u x y ts vs env σ w Q c hg q => ?_
  split at hg
  · cases hg
    have := c.top2
    cases this
    rw [isNonS_ok c] at q
    exact ⟨rfl, q _ R H (c.push rfl)⟩
  · cases hg
/-! ### len, subscripts, slices -/
@[simp] def lenS : Sv → Option Nat
  | .fz (.tup ds) => some ds.length
  | .fz (.lst ds) => some ds.length
  | .lst ss => some ss.length
  | .fz (.str x) => if x.length ≤ sizeLine then some x.length else none
  | _ => none
@[simp] def gLen : Bf := keep1 fun s => (lenS s).map fun n => .fz (.int (n : Nat))
theorem srv_len : Srv G (fun xs H Q => ∃ x n, xs = [x] ∧ LenV G.K x H n ∧ Q (.int (n : Nat)) H) gLen := by
  refine srv1 fun Z R H s x ts vs env σ w Q c hg q => ?_
  cases hn : lenS s with
  | none => rw [hn] at hg; cases hg
  | some n =>
    rw [hn] at hg
    cases hg
    have sub := c.wf
    refine ⟨x, n, rfl, ?_, q _ R H (c.push rfl)⟩
    obtain ⟨f, r⟩ := c.topS
    cases s with
    | ins _ _ _ => cases hn
    | lst ss =>
      cases hn
      obtain ⟨a, ws, g, rfl, ha, hs, _⟩ := r
      exact .inl ⟨ws, .inl (.inl ha), hs.len⟩
    | fz d =>
      obtain ⟨r, _⟩ := r
      cases d with
      | tup ds =>
        cases hn
        obtain ⟨a, ws, rfl, ha, hs⟩ := r
        exact .inr ⟨ws, sqT_mono sub ha, hs.len⟩
      | lst ds =>
        cases hn
        obtain ⟨a, ws, rfl, ha, hs⟩ := r
        exact .inl ⟨ws, sub.seq ha, hs.len⟩
      | str x =>
        cases r
        simp only [lenS] at hn
        split at hn
        · rename_i hz
          cases hn
          exact ⟨hz, rfl⟩
        · cases hn
      | non => cases hn
      | bl _ => cases hn
      | int _ => cases hn
      | obj _ _ _ => cases hn
@[simp] def ixS : Sv → Sv → Option Sv
  | .fz (.tup ds), .fz (.int i) => (atI ds i).map .fz
  | .fz (.str x), .fz (.int i) => if x.length ≤ sizeLine then (atI x.cps.toList i).map fun c => .fz (.str ⟨#[c]⟩) else none
  | s, .fz (.int i) => (elemsL s).bind fun ds => (atI ds i).map .fz
  | _, _ => none
@[simp] def gIx : Bf := keep2 ixS
theorem atI_get {R : Hp} {ds : List Dt} {ws : List V} {i : Int} {d : Dt} (hr : RpDs G R ds ws) (h : atI ds i = some d) : ∃ v, atI ws i = some v ∧ RpD G R d v := by
  unfold atI at h ⊢
  rw [← hr.len]
  cases hq : ixN ds.length i with
  | none => rw [hq] at h; cases h
  | some j =>
    rw [hq] at h
    have h : ds[j]? = some d := h
    obtain ⟨x, hx⟩ := get_of (l := ws) (i := j) (by rw [← hr.len]; exact (List.getElem?_eq_some_iff.mp h).1)
    exact ⟨x, hx, hr.get h hx⟩
theorem srv_ix : Srv G (r2l (rIx G.K)) gIx := by
  refine srv2 fun Z R H s u x y ts vs env σ w Q c hg q => ?_
  have sub := c.wf
  have lists : ∀ i : Int, u = .fz (.int i) → ((elemsL s).bind fun ds => (atI ds i).map Sv.fz) = some w → rIx G.K x y H Q := fun i hu hg2 => by
    subst hu
    cases h1 : elemsL s with
    | none => rw [h1] at hg2; cases hg2
    | some ds =>
      rw [h1] at hg2
      have hg2 : (atI ds i).map Sv.fz = some w := hg2
      cases h2 : atI ds i with
      | none => rw [h2] at hg2; cases hg2
      | some d =>
        rw [h2] at hg2
        cases hg2
        have := c.top2
        cases this
        obtain ⟨a, ws, rfl, hr, hs, _⟩ := elemsL_kp c h1
        obtain ⟨v, hv, rv⟩ := atI_get hr h2
        exact .inl ⟨a, ws, i, v, rfl, rfl, hs, hv, q _ _ _ (c.push rv)⟩
  unfold ixS at hg
  split at hg
  · rename_i ds i
    cases h2 : atI ds i with
    | none => rw [h2] at hg; cases hg
    | some d =>
      rw [h2] at hg
      cases hg
      have := c.top2
      cases this
      obtain ⟨a, ws, rfl, ha, hr⟩ := c.top
      obtain ⟨v, hv, rv⟩ := atI_get hr h2
      exact .inr (.inl ⟨a, ws, i, v, rfl, rfl, sqT_mono sub ha, hv, q _ _ _ (c.push rv)⟩)
  · rename_i z i
    split at hg
    · rename_i hz
      cases h2 : atI z.cps.toList i with
      | none => rw [h2] at hg; cases hg
      | some k =>
        rw [h2] at hg
        cases hg
        have e1 := c.top
        have e2 := c.top2
        cases e1
        cases e2
        exact .inr (.inr ⟨z, i, k, rfl, rfl, hz, h2, q _ _ _ (c.push rfl)⟩)
    · cases hg
  · rename_i i _ _
    exact lists i rfl hg
  · cases hg
end
end Fw
set_option Elab.async false
set_option linter.all false
set_option maxRecDepth 100000
set_option maxHeartbeats 1000000
/-! sorted of data, with reverse=. -/
namespace Fw
open PySem PySem.Spec PyProof.Rows L2
open PySem.W (sortingHeap copyHeap sorting_copy_old EachIs AllAlike Sortable SortsAt dataLe alike alikeAll keyToks dataKind sortVals sortVals_data sortVals_length)

section
variable {prog : Program} {w : World} {A : Around} {E : Value → Shared → Prop} {s : Shared} {β : Type} {vs : List Value} {bs : List β} {enc : β → PyData} {R : Value → β → Prop}
/-- as Sortable, or there is one thing at most -/
def SortableX (ds : List PyData) : Prop := Sortable ds ∨ (ds.length ≤ 1 ∧ ∀ d ∈ ds, d ≠ .none)
theorem sortsAt {vs : List Value} {ds : List PyData} (e : EachIs (fun v d => ∃ as, Reads s.heap v d as) vs ds) (hal : AllAlike ds) (hk : SortableX ds) (hu : ∀ d, d ∈ ds → A.units + d.depth < cLine) : SortsAt prog w A s (dataKind s.heap ds) vs := by
  rcases hk with hk | ⟨h1, hn⟩
  · exact SortsAt.data e hal hk hu
  · refine ⟨fun v hv => ?_, general', fun E x y a b Q ha hb hq => ?_, fun h2 => absurd h2 (by rw [e.length]; omega)⟩
    · obtain ⟨d, hd, as, r⟩ := e.left v hv
      exact ⟨_, PySem.W.dataKind_some hal hd r⟩
    · obtain ⟨d, as, hd, ra, rfl⟩ := PySem.W.dataKind_inv ha
      obtain ⟨d', as', hd', rb, rfl⟩ := PySem.W.dataKind_inv hb
      show wpAny _ _ (oneLt' false x y) _ _ _
      exact PySem.W.oneLt_alike (fun z => nomatch z) ra rb (hal d hd d' hd') (hn d hd) (Nat.lt_of_le_of_lt (Nat.add_le_add_left (Nat.min_le_left _ _) _) (hu d hd)) hq
theorem sorted_x {l : Addr} {Q : Value → Shared → Prop} (hl : s.heap.IsList l vs.toArray) (e : EachIs R vs bs) (er : EachIs (fun v b => ∃ as, Reads s.heap v (enc b) as) vs bs) (hal : AllAlike (bs.map enc)) (hk : SortableX (bs.map enc)) (hL : bs.length ≤ sizeLine)
    (hu : ∀ b, b ∈ bs → A.units + 2 + (enc b).depth < cLine) (h : ∀ out, out.length = bs.length → EachIs R out (bs.mergeSort (dataLe false enc)) → Q (.ref (s.heap.objs.size + 1)) { s with heap := sortedAll s.heap vs (List.toArray out) }) :
    wpAny (model prog w) A (call (.builtin "sorted") [.ref l]) Q E s := by
  have er' : EachIs (fun v b => ∃ as, Reads (sortingHeap (copyHeap s.heap vs) (s.heap.objs.size + 1) vs) v (enc b) as) vs bs := er.mono fun _ _ ⟨as, r⟩ => ⟨as, PyProof.Rows.Reads.keeps (fun _ _ => sorting_copy_old) r⟩
  exact PySem.W.sorted_vals hl (sortsAt (s := { s with heap := sortingHeap (copyHeap s.heap vs) (s.heap.objs.size + 1) vs }) (PySem.W.each_map (R := fun v d => ∃ as, Reads (sortingHeap (copyHeap s.heap vs) (s.heap.objs.size + 1) vs) v d as) enc er') hal hk (PySem.W.bound_map hu)) (by rw [e.length]; exact hL)
    (h _ (by rw [sortVals_length false rfl]; exact e.length) (sortVals_data false e er' hal))
theorem sorted_rev_x {l : Addr} {b : Bool} {Q : Value → Shared → Prop} (hl : s.heap.IsList l vs.toArray) (e : EachIs R vs bs) (er : EachIs (fun v b => ∃ as, Reads s.heap v (enc b) as) vs bs) (hal : AllAlike (bs.map enc)) (hk : SortableX (bs.map enc)) (hL : bs.length ≤ sizeLine)
    (hu : ∀ b, b ∈ bs → A.units + 2 + (enc b).depth < cLine) (h : ∀ out, out.length = bs.length → EachIs R out (bs.mergeSort (dataLe b enc)) → Q (.ref (s.heap.objs.size + 1)) { s with heap := sortedAll s.heap vs (List.toArray out) }) :
    wpAny (model prog w) A (call (.builtin "sorted") [.ref l] [(Str.ofString "reverse", .bool b)]) Q E s := by
  have er' : EachIs (fun v b => ∃ as, Reads (sortingHeap (copyHeap s.heap vs) (s.heap.objs.size + 1) vs) v (enc b) as) vs bs := er.mono fun _ _ ⟨as, r⟩ => ⟨as, PyProof.Rows.Reads.keeps (fun _ _ => sorting_copy_old) r⟩
  exact PySem.W.sorted_rev_vals hl (sortsAt (s := { s with heap := sortingHeap (copyHeap s.heap vs) (s.heap.objs.size + 1) vs }) (PySem.W.each_map (R := fun v d => ∃ as, Reads (sortingHeap (copyHeap s.heap vs) (s.heap.objs.size + 1) vs) v d as) enc er') hal hk (PySem.W.bound_map hu)) (by rw [e.length]; exact hL)
    (h _ (by rw [sortVals_length b rfl]; exact e.length) (sortVals_data b e er' hal))
end
section
variable {X : Cx}
/-- what is sorted: values with their data -/
def srtV (rev : Bool) (bs : List (V × PyData)) : List V := (bs.mergeSort (dataLe rev Prod.snd)).map Prod.fst
def rSrt (K : PySem.W.Frag) (rev : Bool) : List V → Hp → VK → Prop := fun vs H Q => ∃ (a : Addr) (xs : List V) (ps : List PyData), vs = [V.ref a] ∧ SqL K H a xs ∧ DpAll K H xs ps ∧ AllAlike ps ∧ SortableX ps ∧ (∀ d ∈ ps, d.depth ≤ 50) ∧
  ∀ p, H p = none → Q (.ref p) (upd H p (.lst (srtV rev (xs.zip ps))))
theorem dpAll_len {K : PySem.W.Frag} {H : Hp} : ∀ {xs : List V} {ps : List PyData}, DpAll K H xs ps → xs.length = ps.length
  | _, _, .nil => rfl
  | _, _, .cons _ t => by rw [List.length_cons, List.length_cons, dpAll_len t]
theorem each_vals : ∀ {xs : List V} {us : List Value} {ps : List PyData}, Vals xs us → xs.length = ps.length → EachIs (fun v (b : V × PyData) => RelV b.1 v) us (xs.zip ps)
  | _, _, _, .nil, _ => .nil
  | _ :: _, _, [], .cons _ _, h => nomatch h
  | x :: xs, _, p :: ps, .cons r t, h => .cons r (each_vals t (by simpa using h))
theorem each_reads {pins : List (Addr × Obj)} {s : Shared} {σ : L2.St} {H : Hp} (I : Inv X pins σ H s) : ∀ {xs : List V} {us : List Value} {ps : List PyData}, Vals xs us → DpAll X.K H xs ps → EachIs (fun v (b : V × PyData) => ∃ as, Reads s.heap v b.2 as) us (xs.zip ps)
  | _, _, _, .nil, .nil => .nil
  | _, _, _, .cons r t, .cons d e => .cons (Dp.reads I _ _ _ d r) (each_reads I t e)
theorem vals_each : ∀ {bs : List (V × PyData)} {us : List Value}, EachIs (fun v (b : V × PyData) => RelV b.1 v) us bs → Vals (bs.map Prod.fst) us
  | _, _, .nil => .nil
  | _, _, .cons r t => .cons r (vals_each t)
theorem cr_srt (hu : X.A.units + 64 < cLine) : CallR X (.builtin "sorted") (rSrt X.K false) := by
  intro pins s σ H vs us Q I r h
  obtain ⟨a, xs, ps, rfl, hs, hd, hal, hk, hdp, q⟩ := h
  obtain ⟨its, rv, hl, hz⟩ := I.list hs
  rw [Vals.ref1 r]
  have hlen := dpAll_len hd
  have hsnd : (xs.zip ps).map Prod.snd = ps := List.map_snd_zip (Nat.le_of_eq hlen.symm)
  refine sorted_x (enc := Prod.snd) hl.isList (each_vals rv hlen) (each_reads I rv hd) (by rw [hsnd]; exact hal) (by rw [hsnd]; exact hk) (by rw [List.length_zip]; omega) (fun b hb => ?_) fun out h1 h2 => ?_
  · have := hdp b.2 (List.of_mem_zip hb).2
    omega
  · obtain ⟨ep, he'⟩ := PyProof.Rows.sortedAll_at s.heap its out.toArray
    refine ⟨.ref _, upd H (s.heap.objs.size + 1) (.lst (srtV false (xs.zip ps))), I.laid (t' := s.toks) (fun _ _ => PyProof.Rows.sortedAll_old) (Nat.le_succ _) ⟨?_, out, ep, vals_each h2, he'⟩, rfl, q _ (I.hok.fresh (Nat.le_succ _))⟩
    unfold srtV
    rw [List.length_map, List.length_mergeSort, List.length_zip]
    omega
theorem cr_srtR {b : Bool} (hu : X.A.units + 64 < cLine) : CallRK X (.builtin "sorted") [Str.ofString "reverse"] (fun vs zs H Q => zs = [.bl b] ∧ rSrt X.K b vs H Q) := by
  intro pins s σ H vs zs us ws Q I r rz h
  obtain ⟨rfl, a, xs, ps, rfl, hs, hd, hal, hk, hdp, q⟩ := h
  obtain ⟨its, rv, hl, hz⟩ := I.list hs
  rw [Vals.ref1 r]
  obtain ⟨w1, rfl, e1⟩ := vals1 rz
  obtain rfl : w1 = Value.bool b := e1
  have hlen := dpAll_len hd
  have hsnd : (xs.zip ps).map Prod.snd = ps := List.map_snd_zip (Nat.le_of_eq hlen.symm)
  refine sorted_rev_x (enc := Prod.snd) hl.isList (each_vals rv hlen) (each_reads I rv hd) (by rw [hsnd]; exact hal) (by rw [hsnd]; exact hk) (by rw [List.length_zip]; omega) (fun b hb => ?_) fun out h1 h2 => ?_
  · have := hdp b.2 (List.of_mem_zip hb).2
    omega
  · obtain ⟨ep, he'⟩ := PyProof.Rows.sortedAll_at s.heap its out.toArray
    refine ⟨.ref _, upd H (s.heap.objs.size + 1) (.lst (srtV b (xs.zip ps))), I.laid (t' := s.toks) (fun _ _ => PyProof.Rows.sortedAll_old) (Nat.le_succ _) ⟨?_, out, ep, vals_each h2, he'⟩, rfl, q _ (I.hok.fresh (Nat.le_succ _))⟩
    unfold srtV
    rw [List.length_map, List.length_mergeSort, List.length_zip]
    omega
end
section
variable {G : Gd}
def nonEmptyT : PyData → Bool
  | .tuple (_ :: _) => true
  | _ => false
def plainK : PyData → Bool
  | .none => false
  | .tuple _ => false
  | _ => true
def sortableB (ps : List PyData) : Bool := (ps.all nonEmptyT || ps.all plainK || (decide (ps.length ≤ 1) && ps.all fun d => match d with | .none => false | _ => true)) && (ps.all fun d => ps.all fun e => alike d e) && ps.all fun d => decide (d.depth ≤ 50)
theorem sortableB_ok {ps : List PyData} (h : sortableB ps = true) : AllAlike ps ∧ SortableX ps ∧ ∀ d ∈ ps, d.depth ≤ 50 := by
  unfold sortableB at h
  simp only [Bool.and_eq_true, Bool.or_eq_true, List.all_eq_true, decide_eq_true_eq] at h
  obtain ⟨⟨h1, h2⟩, h3⟩ := h
  refine ⟨fun d hd e he => h2 d hd e he, ?_, h3⟩
  rcases h1 with (h1 | h1) | ⟨h1, h4⟩
  · refine .inl (.inl fun d hd => ?_)
    have := h1 d hd
    unfold nonEmptyT at this
    split at this
    · exact ⟨_, _, rfl⟩
    · cases this
  · refine .inl (.inr fun d hd => ?_)
    have := h1 d hd
    unfold plainK at this
    split at this
    · cases this
    · cases this
    · rename_i n1 n2
      exact ⟨n1, fun xs => n2 xs⟩
  · refine .inr ⟨h1, fun d hd e => ?_⟩
    subst e
    exact absurd (h4 _ hd) Bool.false_ne_true
noncomputable def srtD (rev : Bool) (ds : List Dt) : List Dt := ds.mergeSort (dataLe rev Dt.py)
noncomputable def gSorted (rev : Bool) : Bf := keep1 fun s => match datOf s with
  | some (.lst ds) => if PyData.canLayAll0 (pys ds) && sortableB (pys ds) then some (.lst ((srtD rev ds).map .fz)) else none
  | _ => none
theorem pys_map : ∀ ds : List Dt, pys ds = ds.map Dt.py
  | [] => rfl
  | d :: ds => by rw [pys, List.map_cons, pys_map ds]
theorem datOf_lst {Z : Zn} {R H : Hp} {s : Sv} {v : V} {ds : List Dt} {ts : List Sv} {vs : List V} {env : Env} {σ : L2.St} (c : Cfg G Z R H (s :: ts) (v :: vs) env σ) (h : datOf s = some (.lst ds)) : elemsL s = some ds := by
  cases s with
  | ins _ _ _ => cases h
  | fz d => cases h; rfl
  | lst ss =>
    have h : (allFz ss).map Dt.lst = some (.lst ds) := h
    cases hq : allFz ss with
    | none => rw [hq] at h; cases h
    | some l => rw [hq] at h; cases h; exact hq
theorem rpDs_zip {R : Hp} : ∀ {ds : List Dt} {ws : List V}, RpDs G R ds ws → ∀ p ∈ ws.zip ds, RpD G R p.2 p.1
  | [], _, h, p, hp => by
    cases h
    exact nomatch hp
  | d :: ds, _, ⟨v, vr, e, h, r⟩, p, hp => by
    subst e
    rcases List.mem_cons.mp hp with rfl | hp
    · exact h
    · exact rpDs_zip r p hp
theorem rpDs_of {R : Hp} : ∀ {l : List (V × Dt)}, (∀ p ∈ l, RpD G R p.2 p.1) → RpDs G R (l.map Prod.snd) (l.map Prod.fst)
  | [], _ => rfl
  | p :: l, h => ⟨p.1, l.map Prod.fst, rfl, h p List.mem_cons_self, rpDs_of fun q hq => h q (List.mem_cons_of_mem _ hq)⟩
theorem srt_rp {R : Hp} {rev : Bool} {ds : List Dt} {ws : List V} (h : RpDs G R ds ws) : RpDs G R (srtD rev ds) (srtV rev (ws.zip (pys ds))) := by
  have hlen := h.len
  have z := rpDs_of (l := (ws.zip ds).mergeSort (dataLe rev fun p => p.2.py)) fun p hp => rpDs_zip h p ((List.mergeSort_perm _ _).mem_iff.mp hp)
  have e1 : ((ws.zip ds).mergeSort (dataLe rev fun p => p.2.py)).map Prod.snd = srtD rev ds := by
    rw [PySem.W.sort_maps (r := dataLe rev fun p : V × Dt => p.2.py) (s := dataLe rev Dt.py) Prod.snd fun a _ b _ => rfl, List.map_snd_zip (Nat.le_of_eq hlen)]
    rfl
  have e2 : ((ws.zip ds).mergeSort (dataLe rev fun p => p.2.py)).map Prod.fst = srtV rev (ws.zip (pys ds)) := by
    have e3 : ws.zip (pys ds) = (ws.zip ds).map fun p => (p.1, p.2.py) := by
      rw [pys_map, List.zip_map_right]
      rfl
    unfold srtV
    rw [e3, ← PySem.W.sort_maps (r := dataLe rev fun p : V × Dt => p.2.py) (s := dataLe rev Prod.snd) (fun p : V × Dt => (p.1, p.2.py)) fun a _ b _ => rfl, List.map_map]
    rfl
  rw [e1, e2] at z
  exact z
theorem sorted_core {rev : Bool} {Z : Zn} {R H : Hp} {s : Sv} {x : V} {ts : List Sv} {vs : List V} {env : Env} {σ : L2.St} {w : Sv} {Q : VK} (c : Cfg G Z R H (s :: ts) (x :: vs) env σ)
    (hg : (match datOf s with
      | some (.lst ds) => if PyData.canLayAll0 (pys ds) && sortableB (pys ds) then some (Sv.lst ((srtD rev ds).map .fz)) else none
      | _ => none) = some w) (q : ∀ v R' H', Cfg G Z R' H' (w :: s :: ts) (v :: x :: vs) env σ → Q v H') : rSrt G.K rev [x] H Q := by
  split at hg
  · rename_i ds hd
    split at hg
    · rename_i ho
      cases hg
      obtain ⟨o1, o2⟩ := Bool.and_eq_true_iff.mp ho
      obtain ⟨a1, a2, a3⟩ := sortableB_ok o2
      obtain ⟨a, ws, rfl, hr, hs, _⟩ := elemsL_kp c (datOf_lst c hd)
      refine ⟨a, ws, pys ds, rfl, hs, dps_of c.wf o1 hr, a1, a2, a3, fun p hp => q _ _ _ (c.newFz (srt_rp hr) hp)⟩
    · cases hg
  · cases hg
theorem srv_sorted : Srv G (rSrt G.K false) (gSorted false) := srv1 fun Z R H s x ts vs env σ w Q c hg q => sorted_core c hg q
end
end Fw
set_option Elab.async false
set_option linter.all false
set_option maxRecDepth 100000
set_option maxHeartbeats 3200000
/-! list(reversed(xs)), xs a list. -/
namespace Fw
open PySem PySem.Spec PyProof.Rows L2
/-- a list's object of no attributes -/
abbrev lob (xs : Array Value) (c : Nat := 0) : Obj := { cls := .type "list", dict := none, data := .seq xs c, slots := #[] }
/-- it walks xs, the items of the list at l, from behind; T is a new empty list beside them -/
structure RevBeside (h : Heap) (it l T : Addr) (xs : Array Value) (c : Nat) : Prop where
  at_ : h.IsRevIter it l ((xs.size : Int) - 1)
  src : h.IsList l xs
  new : h.get? T = some (lob #[] c)
  n1 : l ≠ it
  n2 : T ≠ it
  n3 : T ≠ l
/-- what has come of it: T holds the items from behind, all but T and the iterator is as it was -/
def RevDone (s u : Shared) (it T : Addr) (xs : Array Value) : Prop := ∃ acc c, u.heap.get? T = some (lob acc c) ∧ ItemsOf (fun i v => xs[xs.size - 1 - i]? = some v) acc xs.size ∧ Moved [T, it] (fun a b => b = a) s u
section
variable {P : Program} {w : World} {A : Around} {E : Value → Shared → Prop} {s : Shared} {R : Result → Shared → Prop} {it l T : Addr} {xs : Array Value} {c : Nat}
theorem hint_says {Q : Bool → Shared → Prop} (h : s.TypeIs (.ref it) "list_reverseiterator") (q : Q false s) : wpAny (model P w) A (Builtin.List.listLengthHint (.ref it)) Q E s := by
  unfold Builtin.List.listLengthHint
  refine wpAny_bind (wpAny_specialOf h RT.nolen_lri ?_)
  refine (wpAny_bind (wpAny_specialOf h RT.hint_lri ?_) : wpAny _ A (specialOf (Value.ref it) (Str.ofString "__length_hint__") >>= _) _ _ _)
  generalize e : ("list_reverseiterator.__length_hint__" : String) = name
  wp_delta
  have cut : splitId name = some ("list_reverseiterator", "__length_hint__") := by subst e; decide +kernel
  rw [cut]
  subst e
  exact wpAny_bind (wpAny_isInstance (b := true) h (by rw [isSubtype_type]; kernel_rfl) (wpAny_pure q))
theorem extend_rev (calm : A.in1.handled = none) (b : RevBeside s.heap it l T xs c) (hn : xs.size ≤ sizeLine) (fin : ∀ u, RevDone s u it T xs → R (.ok (.ret .none)) u) :
    wpAny (model P w) A.in1 (Builtin.List.listExtendWith (.ref T) (.ref it) .none)
      (fun f u => match f with | .done r => R (.ok r) u | .again k => k.quiet = true ∧ codeAny (model P w) A k R u) (fun e u => R (.error e) u) s := by
  have ty : s.TypeIs (.ref it) "list_reverseiterator" := b.at_.typeIs
  have other : Builtin.List.listSameRef (.ref T) (.ref it) = false := by simp [Builtin.List.listSameRef, b.n2]
  unfold Builtin.List.listExtendWith
  refine wpAny_bind (wpAny_typeOf ty ?_)
  rw [if_neg (by rw [other]; exact fun z => nomatch z)]
  refine wpAny_bind (wpAny_pyIter_revIter b.at_ (wpAny_bind (wpAny_holding (hint_says ty ?_))))
  rw [if_neg (by decide)]
  have walk := (Walks.listRev (prog := P) (w := w) (A := A.in1) calm it l b.n1 xs).toS
  have first : s.heap.IsRevIter it l ((xs.size : Int) - 1 - ((0 : Nat) : Int)) := by simpa using b.at_
  have off : T ∉ [it, l] := fun z => by
    rcases List.mem_cons.mp z with z | z
    · exact b.n2 z
    · exact b.n3 (List.mem_singleton.mp z)
  exact wpAny_pure ⟨plainId_quiet F.plain_extend_loop _, codeAny_extend_loopS walk hn T off _ xs.size 0 s #[] c rfl (Nat.zero_le _) ⟨Nat.zero_le _, first, b.src⟩ b.new (ItemsOf.nil _) fun u acc k mv hT its => fin u ⟨acc, k, hT, its, mv⟩⟩
theorem init_rev (calm : A.in1.handled = none) (b : RevBeside s.heap it l T xs 0) (hn : xs.size ≤ sizeLine) (fin : ∀ u, RevDone s u it T xs → R (.ok (.ret .none)) u) :
    wpAny (model P w) A.in1 (Builtin.«list.__init__» ⟨[.ref T, .ref it], []⟩)
      (fun f u => match f with | .done r => R (.ok r) u | .again k => k.quiet = true ∧ codeAny (model P w) A k R u) (fun e u => R (.error e) u) s := by
  refine (?_ : wpAny _ A.in1 (Builtin.List.listItems (.ref T) >>= fun old => Builtin.List.listUpdate (.ref T) (fun _ => #[]) >>= fun _ => letGo old.toList.reverse >>= fun _ => Builtin.List.listExtendWith (.ref T) (.ref it) .none) _ _ s)
  refine wpAny_bind ?_
  unfold Builtin.List.listItems
  refine wpAny_bind (wpAny_seqItems b.new rfl (wpAny_pure ?_))
  refine (wpAny_bind (wpAny_updateSeq b.new rfl ?_) : wpAny _ A.in1 (updateSeq T (fun _ => #[]) >>= fun _ => _) _ _ s)
  have was : ∀ a o, a ≠ T → s.heap.get? a = some o → (s.heap.update T (Obj.mapSeq (fun _ => (#[] : Array Value)))).get? a = some o := fun a o ha e => by
    rw [Heap.get?_update_other _ _ (Ne.symm ha)]
    exact e
  have now : (s.heap.update T (Obj.mapSeq (fun _ => (#[] : Array Value)))).get? T = some (lob #[]) := by
    have z := Heap.get?_update_self (Obj.mapSeq (fun _ => (#[] : Array Value))) b.new rfl
    exact z
  obtain ⟨lo, hlo, lr⟩ := b.src
  refine wpAny_bind (wpAny_letGo (extend_rev (s := { s with heap := s.heap.update T (Obj.mapSeq (fun _ => (#[] : Array Value))) }) calm ⟨b.at_.at fun o e => was it o (Ne.symm b.n2) e, ⟨lo, was l lo (Ne.symm b.n3) hlo, lr⟩, now, b.n1, b.n2, b.n3⟩ hn fun u d => fin u ?_))
  obtain ⟨acc, k, h1, h2, mv⟩ := d
  exact ⟨acc, k, h1, h2, ⟨fun a o ha e => mv.heap a o ha (was a o (fun z => ha (by rw [z]; exact List.mem_cons_self (l := [it]))) e), mv.gens, mv.drawn, mv.os, mv.toks⟩⟩
theorem list_of_rev {Q : Value → Shared → Prop} (calm : A.handled = none) (hi : s.heap.IsRevIter it l ((xs.size : Int) - 1)) (hl : s.heap.IsList l xs) (ne : l ≠ it) (hn : xs.size ≤ sizeLine)
    (fin : ∀ (h' : Heap) (tk : Nat) (acc : Array Value) (k : Nat), (∀ a o, a ≠ it → s.heap.get? a = some o → h'.get? a = some o) → ItemsOf (fun i v => xs[xs.size - 1 - i]? = some v) acc xs.size → h'.get? s.heap.objs.size = some (lob acc k) → Q (.ref s.heap.objs.size) { s with heap := h', toks := tk }) :
    wpAny (model P w) A (call (.type "list") [.ref it]) Q E s := by
  have below : ∀ {a : Addr} {o : Obj}, s.heap.get? a = some o → s.heap.objs.size ≠ a := fun e => Nat.ne_of_gt (Heap.lt_size e)
  have p2 : s.heap.objs.size ≠ it := let ⟨_, e, _⟩ := hi; below e
  have p3 : s.heap.objs.size ≠ l := let ⟨_, e, _⟩ := hl; below e
  have fresh : (s.heap.push (lob #[])).get? s.heap.objs.size = some (lob #[]) := Heap.get?_push_size _ rfl
  refine callType_codes (Q₁ := fun o u => o = .ref s.heap.objs.size ∧ u = { s with heap := s.heap.push (lob #[]) }) F.called_list (F.typeCall_list_1 _) F.entry_list_init (code_list_new _ ⟨rfl, rfl⟩) fun o u hu => ?_
  obtain ⟨e1, e2⟩ := hu
  subst e1 e2
  refine ⟨⟨_, fresh, rfl⟩, F.args_list_init_2 _ _, init_rev (A := A.in1) (s := { s with heap := s.heap.push (lob #[]) }) (xs := xs) (l := l) calm ⟨hi.at fun o e => Heap.get?_push_of_some _ e, hl.push _, fresh, ne, p2, p3⟩ hn fun u d => ⟨rfl, ?_⟩⟩
  obtain ⟨acc, k, h1, h2, mv⟩ := d
  rw [Moved.eq_with mv]
  refine fin u.heap u.toks acc k (fun a o ha e => mv.heap a o (fun z => ?_) (Heap.get?_push_of_some _ e)) h2 h1
  rcases List.mem_cons.mp z with z | z
  · exact below e z.symm
  · exact ha (List.mem_singleton.mp z)
end
def tLstRev (K : PySem.W.Frag) (te : TE) : TE := fun σ H Q => te σ H fun v H1 => ∃ (a : Addr) (xs : List V), v = .ref a ∧ SqL K H1 a xs ∧ ∀ q, H1 q = none → Q (.ref q) (upd H1 q (.lst xs.reverse))
section
variable {X : Cx}
theorem pe_lstRev {e : Expr} {te : TE} {p p2 pos pos2 : Pos} (hc : X.calm = true) (hg : Gl X "list") (hm : X.mg "list" = none) (hg2 : Gl X "reversed") (hm2 : X.mg "reversed" = none) (he : PE X e te)
    (one : starEach [e] X.env = [(false, eval e X.env)] := by rfl) (two : starEach [.Call (.Name "reversed" p2) [e] [] pos2] X.env = [(false, eval (.Call (.Name "reversed" p2) [e] [] pos2) X.env)] := by rfl) :
    PE X (.Call (.Name "list" p) [.Call (.Name "reversed" p2) [e] [] pos2] [] pos) (tLstRev X.K te) := by
  constructor
  intro pins s σ H Q I h
  refine Call_ (ld_blt I hg hm boot_list (PyProof.Rows.callWith_type1 (args_cons (Call_ (ld_blt I hg2 hm2 PyProof.Rows.boot_reversed (PyProof.Rows.callWith_type1 (args_cons (thn (he.run pins s σ H _ I h) fun u s1 ⟨v, H1, I1, r1, a, ys, ev, hs, q⟩ => args_nil ?_) one) one rfl))) two) two rfl))
  subst ev
  obtain rfl : u = Value.ref a := r1
  obtain ⟨its, rv, pl, len⟩ := I1.list hs
  have src := pl.isList
  have small : its.toArray.size ≤ sizeLine := by
    rw [List.size_toArray, ← rv.length]
    exact len
  have ai : a ≠ s1.heap.objs.size := let ⟨_, z, _⟩ := src; Nat.ne_of_lt (Heap.lt_size z)
  refine call_reversed_list src (args_nil (list_of_rev (s := { s1 with heap := s1.heap.push (revObj a ((its.toArray.size : Int) - 1)) }) (I1.ok.hd hc) ⟨_, Heap.get?_push_size _ rfl, rfl, rfl⟩ (src.push _) ai small fun h' tk acc k old items new => ?_))
  have up : s1.heap.objs.size ≤ (s1.heap.push (revObj a ((its.toArray.size : Int) - 1))).objs.size := by
    rw [Heap.size_push]
    exact Nat.le_succ _
  have J := I1.turnedNew (t' := tk) (ch := [s1.heap.objs.size]) (ob := .lst ys.reverse) (fun b o hb z => old b o (fun y => hb (by simp [y])) (Heap.get?_push_of_some _ z))
    (fun b hb => by rw [List.mem_singleton.mp hb]; exact I1.fpOk (H' := H1) (Nat.le_refl _) (I1.hok.fresh (Nat.le_refl _))) up ⟨by rw [List.length_reverse]; exact len, acc.toList, k, RT.vals_rev rv items, by rw [Array.toArray_toList]; exact new⟩
  exact ⟨.ref _, _, J, rfl, q _ (I1.hok.fresh up)⟩
end
end Fw
set_option Elab.async false
set_option linter.all false
set_option maxRecDepth 100000
set_option maxHeartbeats 3200000
/-! set(xs), xs a list, whatever its items are: D i h says what the set at S is when i items are in. -/
namespace Fw
open PySem PySem.Spec PyProof.Rows L2
section
variable {P : Program} {w : World} {A : Around} {E : Value → Shared → Prop} {s : Shared}
/-- the object that set() begins as; a state with one more -/
abbrev set0 (w : World) : Obj := { cls := .type "set", dict := none, data := .set #[] 0 (.fresh 0 0 (!w.params.followText "set-order")) }
abbrev plusSet (w : World) (s : Shared) : Shared := { s with heap := s.heap.push (set0 w) }
/-- how one item goes in: what D is behind it -/
def Fills (P : Program) (w : World) (B : Around) (D : Nat → Heap → Prop) (S : Addr) (Pv : Nat → Value → Prop) (n : Nat) : Prop :=
  ∀ (i : Nat) (v : Value) (s : Shared) (Q : Bool → Shared → Prop) (E : Value → Shared → Prop), i < n → Pv i v → D i s.heap → (∀ (b : Bool) (h' : Heap) (k : Nat), Heap.SameBut S s.heap h' → D (i + 1) h' → Q b { s with heap := h', toks := s.toks + k }) → wpAny (model P w) B (setAdd S v) Q E s
/-- D looks at the set, and at what old holds, alone -/
def Stays (D : Nat → Heap → Prop) (S : Addr) (old : Addr → Prop) : Prop := ∀ (i : Nat) (h h' : Heap), (∀ b o, b = S ∨ old b → h.get? b = some o → h'.get? b = some o) → D i h → D i h'
theorem fill_loop {I S : Addr} {fp wr : List Addr} {Gg : Array GenState → Array GenState → Prop} {n : Nat} {Pv : Nat → Value → Prop} {St : Nat → Shared → Prop} {D : Nat → Heap → Prop} {old : Addr → Prop} {R : Result → Shared → Prop}
    (walk : WalksS P w A.in1 I fp wr Gg n Pv St) (off : S ∉ fp) (fills : Fills P w A.in1 D S Pv n) (stays : Stays D S old) (offOld : ∀ b, old b → b ∉ wr)
    (fin : ∀ s0 s', Moved (S :: wr) Gg s0 s' → D n s'.heap → s0 = s → R (.ok (.ret .none)) s') : ∀ (left i : Nat) (s1 : Shared), i + left = n → St i s1 → D i s1.heap → Moved (S :: wr) Gg s s1 →
      codeAny (model P w) A (.builtin "set.update.loop" ⟨[.ref S, .ref I], []⟩) R s1 := by
  have offW : S ∉ wr := fun z => off (walk.sub _ z)
  have wide : ∀ b ∈ wr, b ∈ S :: wr := fun b z => List.mem_cons_of_mem _ z
  have over : ∀ {i : Nat} {u u' : Shared}, Moved wr Gg u u' → D i u.heap → D i u'.heap := fun {i u u'} mv d => stays i _ _ (fun b o hb e => mv.heap b o (by
    rcases hb with rfl | hb
    · exact offW
    · exact offOld b hb) e) d
  intro left
  induction left with
  | zero =>
    intro i s1 hi st d mv
    obtain rfl : i = n := by omega
    refine codeAny_builtin F.entry_set_update_loop ?_
    rw [Around.under_plainId F.plain_set_update_loop _]
    refine (wpAny_bind (walk.done s1 _ _ st fun s2 m2 => ?_) : wpAny _ A.in1 (pyNext (.ref I) >>= _) _ _ s1)
    show wpAny _ A.in1 (ret Value.none) _ _ s2
    exact wpAny_pure (fin s s2 (Moved.trans walk.gtrans mv (m2.mono wide)) (over m2 d) rfl)
  | succ left ih =>
    intro i s1 hi st d mv
    have lt : i < n := by omega
    refine codeAny_builtin F.entry_set_update_loop ?_
    rw [Around.under_plainId F.plain_set_update_loop _]
    refine (wpAny_bind (walk.item i s1 _ _ lt st fun v s2 hv st2 m2 => ?_) : wpAny _ A.in1 (pyNext (.ref I) >>= _) _ _ s1)
    refine (wpAny_bind (wpAny_holding (fills i v s2 _ _ lt hv (over m2 d) fun b h' k same d' => ?_)) : wpAny _ A.in1 (holding [v] (setAdd S v) >>= _) _ _ s2)
    have same' : ∀ b o, b ≠ S → s2.heap.get? b = some o → h'.get? b = some o := fun b o hb e => (same.2 b hb).trans e
    refine wpAny_pure ⟨plainId_quiet F.plain_set_update_loop _, ih (i + 1) { s2 with heap := h', toks := s2.toks + k } (by omega) (walk.frame _ s2 _ _ st2 (Nat.le_add_right _ _) fun b hb o e => same' b o (fun z => off (z ▸ hb)) e) d' ?_⟩
    exact Moved.trans walk.gtrans (Moved.trans walk.gtrans mv (m2.mono wide)) ((Moved.refl walk.grefl).then_heap (Nat.le_add_right _ _) fun b o hb e => same' b o (fun z => hb (z ▸ List.mem_cons_self)) e)
theorem fresh_set : (s.heap.push (set0 w)).get? s.heap.objs.size = some (set0 w) := Heap.get?_push_size _ rfl
/-- __init__ itself -/
theorem init_list {B : Around} {l : Addr} {items : Array Value} {D : Nat → Heap → Prop} (calm : B.handled = none) (hl : s.heap.IsList l items) (d0 : ∀ h' : Heap, (∀ b o, (s.heap.push (set0 w)).get? b = some o → h'.get? b = some o) → D 0 h')
    (fills : ∀ B : Around, Fills P w B D s.heap.objs.size (fun i v => items[i]? = some v) items.size) (stays : Stays D s.heap.objs.size fun b => b < s.heap.objs.size ∧ b ≠ l) :
    wpAny (model P w) B (Builtin.«set.__init__» ⟨[.ref s.heap.objs.size, .ref l], []⟩)
      (fun f u => match f with | .done r => wants (fun r u => r = .none ∧ ∃ h' tk, u = { s with heap := h', toks := tk } ∧ D items.size h' ∧ ∀ b o, s.heap.get? b = some o → h'.get? b = some o) E (.ok r) u | .again c => c.quiet = true ∧ codeAny (model P w) A c (wants (fun r u => r = .none ∧ ∃ h' tk, u = { s with heap := h', toks := tk } ∧ D items.size h' ∧ ∀ b o, s.heap.get? b = some o → h'.get? b = some o) E) u)
      (fun e u => wants (fun r u => r = .none ∧ ∃ h' tk, u = { s with heap := h', toks := tk } ∧ D items.size h' ∧ ∀ b o, s.heap.get? b = some o → h'.get? b = some o) E (.error e) u) (plusSet w s) := by
  obtain ⟨lo, loH, loC, ln, loD⟩ := hl
  obtain ⟨cls, dct, dat, slt⟩ := lo
  simp only at loC loD
  subst loC loD
  have lS : l < s.heap.objs.size := Heap.lt_size loH
  have atl : (s.heap.push (set0 w)).IsList l items := ⟨_, Heap.get?_push_of_some _ loH, rfl, ln, rfl⟩
  have kind : (plusSet w s).heap.get? l = some { cls := .type "list", dict := dct, data := .seq items ln, slots := slt } := Heap.get?_push_of_some _ loH
  have n1 := F.sub_list_set
  have n2 := F.sub_list_frozenset
  have n3 : (Value.type "list" == Value.type "dict") = false := by decide
  unfold Builtin.«set.__init__» noKeywords Builtin.Frozenset.updateFrom
  generalize hp : pyIter = p
  wp_walk
  subst hp
  have size1 : (s.heap.push (set0 w)).objs.size = s.heap.objs.size + 1 := Heap.size_push ..
  refine wpAny_pyIter_list atl (wpAny_bind (wpAny_runValue ?_))
  have ne : l ≠ (s.heap.push (set0 w)).objs.size := by rw [size1]; exact Nat.ne_of_lt (Nat.lt_succ_of_lt lS)
  have walk := (Walks.list (prog := P) (w := w) (A := B.in1) (by exact calm) _ l ne items).toS
  refine fill_loop (old := fun b => b < s.heap.objs.size ∧ b ≠ l) walk (fun z => ?_) (fills _) stays (fun b hb z => ?_) (fun s0 s1 mv d e0 => ?_) items.size 0 _ (Nat.zero_add _) ⟨⟨_, Heap.get?_push_size _ rfl, rfl, rfl⟩, atl.push _⟩ (d0 _ fun b o e => Heap.get?_push_of_some _ e) (Moved.refl walk.grefl)
  · rcases List.mem_cons.mp z with z | z
    · rw [size1] at z; exact absurd z (Nat.ne_of_lt (Nat.lt_succ_self _))
    · exact Nat.lt_irrefl _ ((List.mem_singleton.mp z) ▸ lS)
  · rw [List.mem_singleton.mp z, size1] at hb
    exact absurd hb.1 (Nat.not_lt.mpr (Nat.le_succ _))
  · subst e0
    obtain ⟨h', g', d', tk', os'⟩ := s1
    obtain rfl : g' = s.gens := mv.gens
    obtain rfl : d' = s.drawn := mv.drawn
    obtain rfl : os' = s.os := mv.os
    refine wpAny_pure (wpAny_pure ⟨rfl, h', tk', rfl, d, fun b o e => ?_⟩)
    have small := Heap.lt_size e
    refine mv.heap b o (fun z => ?_) (Heap.get?_push_of_some _ (Heap.get?_push_of_some _ e))
    rcases List.mem_cons.mp z with z | z
    · exact absurd (z ▸ small) (Nat.lt_irrefl _)
    · rw [List.mem_singleton.mp z, size1] at small
      exact absurd small (Nat.not_lt.mpr (Nat.le_succ _))
/-- what the whole call asks: what a filled set is good for -/
theorem set_list {l : Addr} {items : Array Value} {D : Nat → Heap → Prop} {Q : Value → Shared → Prop} (calm : A.handled = none) (hl : s.heap.IsList l items) (d0 : ∀ h' : Heap, (∀ b o, (s.heap.push (set0 w)).get? b = some o → h'.get? b = some o) → D 0 h')
    (fills : ∀ B : Around, Fills P w B D s.heap.objs.size (fun i v => items[i]? = some v) items.size) (stays : Stays D s.heap.objs.size fun b => b < s.heap.objs.size ∧ b ≠ l)
    (fin : ∀ (h' : Heap) (tk : Nat), D items.size h' → (∀ b o, s.heap.get? b = some o → h'.get? b = some o) → Q (.ref s.heap.objs.size) { s with heap := h', toks := tk }) :
    wpAny (model P w) A (call (.type "set") [.ref l]) Q E s := by
  have facts := F.called_set
  obtain ⟨c, tl, mro⟩ := facts.mro
  obtain ⟨lo, loH, loC, ln, loD⟩ := hl
  obtain ⟨cls, dct, dat, slt⟩ := lo
  simp only at loC loD
  subst loC loD
  have lS : l < s.heap.objs.size := Heap.lt_size loH
  have sorted0 : Shared.TypeIs (plusSet w s) (.ref s.heap.objs.size) "set" := ⟨_, fresh_set, rfl⟩
  have made := facts.made
  have sub := facts.sub
  have noT := facts.notType
  have can := facts.canCreate
  have look := facts.init.lookup
  have bind1 := facts.init.bind (.ref s.heap.objs.size)
  have chk := F.typeCall_set_1 (.ref l)
  refine wpAny_call (codeAny_of_tree (wpAny_pure ⟨Code.quiet_builtin _ (by decide +kernel), codeAny_builtin F.entry_type_call ?_⟩ : wpAny _ _ (callAny (.type "set") _) _ _ _))
  rw [Around.under_plain (weight_type_call_type "set" [.ref l] []) rfl]
  repeat (any_goals (first | assumption | wp_step))
  refine codeAny_mono (code_set_led1 (.ref l) (E := E) (Q₁ := fun o u => o = .ref s.heap.objs.size ∧ u = plusSet w s) ⟨rfl, rfl⟩) fun out u hu => ?_
  match out, hu with
  | .ok (.ret _), ⟨e1, e2⟩ =>
    subst e1 e2
    have h0 := fresh_set (w := w) (s := s)
    repeat (any_goals (first | assumption | wp_step))
    refine codeAny_mono (codeAny_call_builtin (R := wants (fun r u => r = .none ∧ ∃ h' tk, u = { s with heap := h', toks := tk } ∧ D items.size h' ∧ ∀ b o, s.heap.get? b = some o → h'.get? b = some o) E) facts.init.plain F.entry_set_init (check_set_init_1 sorted0 (init_list (A := A.in1) (by exact calm) ⟨_, loH, rfl, ln, rfl⟩ d0 fills stays))) fun out2 u2 hu2 => ?_
    match out2, hu2 with
    | .error _, hu2 => exact hu2
    | .ok (.ret _), ⟨e1, h', tk, e2, d, old⟩ =>
      subst e1 e2
      repeat (any_goals (first | assumption | wp_step))
      exact fin h' tk d old
  | .error _, hu => exact hu
/-- a set of ints -/
theorem call_set_R {l : Addr} {items : Array Value} {ns : List Int} {Q : Value → Shared → Prop} (calm : A.handled = none) (hl : s.heap.IsList l items) (hi : IntsAre items.toList ns) (hb : items.size + 1 < scanBound)
    (h : ∀ (h' : Heap) (tk : Nat), SetR w h' s.heap.objs.size (fun k' => (firstMet (fun i => ns.getD i 0) items.size).any (· == k')) (firstMet (fun i => ns.getD i 0) items.size).length → (∀ b o, s.heap.get? b = some o → h'.get? b = some o) → Q (.ref s.heap.objs.size) { s with heap := h', toks := tk }) :
    wpAny (model P w) A (call (.type "set") [.ref l]) Q E s := by
  refine set_list (D := fun i h => SetR w h s.heap.objs.size (fun k' => (firstMet (fun i => ns.getD i 0) i).any (· == k')) (firstMet (fun i => ns.getD i 0) i).length) calm hl (fun h' old => ?_) (fun B i v u Q' E' lt hv d k => ?_) (fun i h1 h2 keep d => d.at fun o e => keep _ o (.inl rfl) e) h
  · have e : SetR w (s.heap.push (set0 w)) s.heap.objs.size (fun _ => false) 0 := setR_fresh w
    exact e.at fun o q => old _ o q
  · obtain ⟨t, rfl⟩ := IntsAre.int_at hi i v (by rw [Array.getElem?_toList]; exact hv)
    unfold setAdd
    refine wpAny_holding (wpAny_bind ((intKind P w).pyHash (intKind_is P w (ns.getD i 0) t) (setR_add_hashed (P := P) (s := { u with toks := u.toks + 1 }) d (by have := firstMet_length_le (fun i => ns.getD i 0) i; omega) fun h' same d' => k _ h' 1 same ?_)))
    have e1 : (fun k' => (firstMet (fun i => ns.getD i 0) (i + 1)).any (· == k')) = (fun j => (firstMet (fun i => ns.getD i 0) i).any (· == j) || decide (j = ns.getD i 0)) := funext fun k' => by rw [firstMet_succ, step_any]
    have e2 : (firstMet (fun i => ns.getD i 0) (i + 1)).length = if ((firstMet (fun i => ns.getD i 0) i).any (· == ns.getD i 0)) = true then (firstMet (fun i => ns.getD i 0) i).length else (firstMet (fun i => ns.getD i 0) i).length + 1 := by rw [firstMet_succ, step_length]
    show SetR w h' _ _ _
    rw [e1, e2]
    exact d'
end
end Fw
set_option Elab.async false
set_option linter.all false
set_option maxRecDepth 100000
set_option maxHeartbeats 1000000
/-! sum, all, any, abs, int, list, tuple, lists' methods, sorted(set(..)), isinstance, slices, op=. -/
namespace Fw
open PySem PySem.Spec PyProof.Rows L2

@[simp] def intsOf : List Dt → Option (List Int)
  | [] => some []
  | .int i :: ds => (intsOf ds).map fun r => i :: r
  | _ :: _ => none
@[simp] def blsOf : List Dt → Option (List Bool)
  | [] => some []
  | .bl b :: ds => (blsOf ds).map fun r => b :: r
  | _ :: _ => none
section
variable {G : Gd}
theorem intsOf_rp {R : Hp} : ∀ {ds : List Dt} {ws : List V} {ns : List Int}, intsOf ds = some ns → RpDs G R ds ws → ws = ns.map V.int
  | [], _, _, h, r => by cases h; exact r
  | .int i :: ds, _, _, h, ⟨v, vr, e, r1, r2⟩ => by
    simp only [intsOf] at h
    cases q : intsOf ds with
    | none => rw [q] at h; cases h
    | some l =>
      rw [q] at h
      cases h
      have e1 : v = .int i := r1
      subst e e1
      rw [intsOf_rp q r2, List.map_cons]
  | .non :: _, _, _, h, _ => nomatch h
  | .bl _ :: _, _, _, h, _ => nomatch h
  | .str _ :: _, _, _, h, _ => nomatch h
  | .tup _ :: _, _, _, h, _ => nomatch h
  | .lst _ :: _, _, _, h, _ => nomatch h
  | .obj _ _ _ :: _, _, _, h, _ => nomatch h
theorem blsOf_rp {R : Hp} : ∀ {ds : List Dt} {ws : List V} {ns : List Bool}, blsOf ds = some ns → RpDs G R ds ws → ws = ns.map V.bl
  | [], _, _, h, r => by cases h; exact r
  | .bl i :: ds, _, _, h, ⟨v, vr, e, r1, r2⟩ => by
    simp only [blsOf] at h
    cases q : blsOf ds with
    | none => rw [q] at h; cases h
    | some l =>
      rw [q] at h
      cases h
      have e1 : v = .bl i := r1
      subst e e1
      rw [blsOf_rp q r2, List.map_cons]
  | .non :: _, _, _, h, _ => nomatch h
  | .int _ :: _, _, _, h, _ => nomatch h
  | .str _ :: _, _, _, h, _ => nomatch h
  | .tup _ :: _, _, _, h, _ => nomatch h
  | .lst _ :: _, _, _, h, _ => nomatch h
  | .obj _ _ _ :: _, _, _, h, _ => nomatch h
@[simp] def intsS (s : Sv) : Option (List Int) := (elemsL s).bind intsOf
@[simp] def blsS (s : Sv) : Option (List Bool) := (elemsL s).bind blsOf
theorem intsS_ok {Z : Zn} {R H : Hp} {s : Sv} {x : V} {ts : List Sv} {vs : List V} {env : Env} {σ : L2.St} {ns : List Int} (c : Cfg G Z R H (s :: ts) (x :: vs) env σ) (h : intsS s = some ns) : ∃ a, x = .ref a ∧ SqL G.K H a (ns.map V.int) := by
  unfold intsS at h
  cases q : elemsL s with
  | none => rw [q] at h; cases h
  | some ds =>
    rw [q] at h
    obtain ⟨a, ws, rfl, hr, hs, _⟩ := elemsL_kp c q
    rw [intsOf_rp h hr] at hs
    exact ⟨a, rfl, hs⟩
theorem blsS_ok {Z : Zn} {R H : Hp} {s : Sv} {x : V} {ts : List Sv} {vs : List V} {env : Env} {σ : L2.St} {ns : List Bool} (c : Cfg G Z R H (s :: ts) (x :: vs) env σ) (h : blsS s = some ns) : ∃ a, x = .ref a ∧ SqL G.K H a (ns.map V.bl) := by
  unfold blsS at h
  cases q : elemsL s with
  | none => rw [q] at h; cases h
  | some ds =>
    rw [q] at h
    obtain ⟨a, ws, rfl, hr, hs, _⟩ := elemsL_kp c q
    rw [blsOf_rp h hr] at hs
    exact ⟨a, rfl, hs⟩
theorem keep1_some {α : Type} {o : Option α} {f : α → Sv} {w : Sv} (h : o.map f = some w) : ∃ a, o = some a ∧ f a = w := by
  cases o with
  | none => cases h
  | some a => cases h; exact ⟨a, rfl, rfl⟩
@[simp] def gSum : Bf := keep1 fun s => (intsS s).map fun ns => .fz (.int ns.sum)
@[simp] def gAll : Bf := keep1 fun s => (blsS s).map fun ns => .fz (.bl (ns.all id))
@[simp] def gAny : Bf := keep1 fun s => (blsS s).map fun ns => .fz (.bl (ns.any id))
theorem srv_sum : Srv G (rSum G.K) gSum := srv1 fun Z R H s x ts vs env σ w Q c hg q => by
  obtain ⟨ns, e, rfl⟩ := keep1_some hg
  obtain ⟨a, rfl, hs⟩ := intsS_ok c e
  exact ⟨a, ns, rfl, hs, q _ _ _ (c.push rfl)⟩
theorem srv_all : Srv G (rAll G.K) gAll := srv1 fun Z R H s x ts vs env σ w Q c hg q => by
  obtain ⟨ns, e, rfl⟩ := keep1_some hg
  obtain ⟨a, rfl, hs⟩ := blsS_ok c e
  exact ⟨a, ns, rfl, hs, q _ _ _ (c.push rfl)⟩
theorem srv_any : Srv G (rAny G.K) gAny := srv1 fun Z R H s x ts vs env σ w Q c hg q => by
  obtain ⟨ns, e, rfl⟩ := keep1_some hg
  obtain ⟨a, rfl, hs⟩ := blsS_ok c e
  exact ⟨a, ns, rfl, hs, q _ _ _ (c.push rfl)⟩
def maxI : List Int → Int
  | [] => 0
  | [a] => a
  | a :: r => max a (maxI r)
def minI : List Int → Int
  | [] => 0
  | [a] => a
  | a :: r => min a (minI r)
theorem maxI_ok : ∀ {ns : List Int}, ns ≠ [] → maxI ns ∈ ns ∧ ∀ y ∈ ns, y ≤ maxI ns
  | [], h => absurd rfl h
  | [a], _ => ⟨List.mem_cons_self, fun y hy => by rw [List.mem_singleton.mp hy]; exact Int.le_refl _⟩
  | a :: b :: r, _ => by
    obtain ⟨h1, h2⟩ := maxI_ok (ns := b :: r) (by simp)
    show max a (maxI (b :: r)) ∈ _ ∧ _
    refine ⟨?_, fun y hy => ?_⟩
    · rcases Int.le_total a (maxI (b :: r)) with h | h
      · rw [Int.max_eq_right h]; exact List.mem_cons_of_mem _ h1
      · rw [Int.max_eq_left h]; exact List.mem_cons_self
    · show y ≤ max a (maxI (b :: r))
      rcases List.mem_cons.mp hy with rfl | hy
      · exact Int.le_max_left _ _
      · exact Int.le_trans (h2 y hy) (Int.le_max_right _ _)
theorem minI_ok : ∀ {ns : List Int}, ns ≠ [] → minI ns ∈ ns ∧ ∀ y ∈ ns, minI ns ≤ y
  | [], h => absurd rfl h
  | [a], _ => ⟨List.mem_cons_self, fun y hy => by rw [List.mem_singleton.mp hy]; exact Int.le_refl _⟩
  | a :: b :: r, _ => by
    obtain ⟨h1, h2⟩ := minI_ok (ns := b :: r) (by simp)
    show min a (minI (b :: r)) ∈ _ ∧ _
    refine ⟨?_, fun y hy => ?_⟩
    · rcases Int.le_total a (minI (b :: r)) with h | h
      · rw [Int.min_eq_left h]; exact List.mem_cons_self
      · rw [Int.min_eq_right h]; exact List.mem_cons_of_mem _ h1
    · show min a (minI (b :: r)) ≤ y
      rcases List.mem_cons.mp hy with rfl | hy
      · exact Int.min_le_left _ _
      · exact Int.le_trans (Int.min_le_right _ _) (h2 y hy)
@[simp] def gMax : Bf := keep1 fun s => (intsS s).bind fun ns => if ns.isEmpty then none else some (.fz (.int (maxI ns)))
@[simp] def gMin : Bf := keep1 fun s => (intsS s).bind fun ns => if ns.isEmpty then none else some (.fz (.int (minI ns)))
theorem srv_max : Srv G (rMax G.K) gMax := srv1 fun Z R H s x ts vs env σ w Q c hg q => by
  cases e : intsS s with
  | none => rw [e] at hg; cases hg
  | some ns =>
    rw [e] at hg
    have hg : (if ns.isEmpty = true then none else some (Sv.fz (.int (maxI ns)))) = some w := hg
    split at hg
    · cases hg
    · rename_i hne
      cases hg
      obtain ⟨a, rfl, hs⟩ := intsS_ok c e
      have hn : ns ≠ [] := fun z => hne (by rw [z]; rfl)
      obtain ⟨h1, h2⟩ := maxI_ok hn
      refine ⟨a, ns, rfl, hs, List.length_pos_iff.mpr hn, fun m hm1 hm2 => ?_⟩
      have : m = maxI ns := Int.le_antisymm (h2 m hm1) (hm2 _ h1)
      subst this
      exact q _ _ _ (c.push rfl)
theorem srv_min : Srv G (rMin G.K) gMin := srv1 fun Z R H s x ts vs env σ w Q c hg q => by
  cases e : intsS s with
  | none => rw [e] at hg; cases hg
  | some ns =>
    rw [e] at hg
    have hg : (if ns.isEmpty = true then none else some (Sv.fz (.int (minI ns)))) = some w := hg
    split at hg
    · cases hg
    · rename_i hne
      cases hg
      obtain ⟨a, rfl, hs⟩ := intsS_ok c e
      have hn : ns ≠ [] := fun z => hne (by rw [z]; rfl)
      obtain ⟨h1, h2⟩ := minI_ok hn
      refine ⟨a, ns, rfl, hs, List.length_pos_iff.mpr hn, fun m hm1 hm2 => ?_⟩
      have : m = minI ns := Int.le_antisymm (hm2 _ h1) (h2 m hm1)
      subst this
      exact q _ _ _ (c.push rfl)
@[simp] def gMax2 : Bf := keep2 (i2 pT fun i j => .int (if j > i then j else i))
@[simp] def gMin2 : Bf := keep2 (i2 pT fun i j => .int (if j < i then j else i))
theorem srv_of_r2 {r : List V → Hp → VK → Prop} {g : Bf} (h : Srv G (r2l fun x y H Q => r [x, y] H Q) g) : Srv G r g := fun Z R H ss ws ts vs env σ s ss' Q hl c hg hl2 q => by
  have := h Z R H ss ws ts vs env σ s ss' Q hl c hg hl2 q
  match ws, this with
  | [x, y], this => exact this
theorem srv_max2 : Srv G (fun xs H Q => ∃ i j, xs = [V.int i, V.int j] ∧ Q (.int (if j > i then j else i)) H) gMax2 := srv_of_r2 (srv_i2 (fun i j => .int (if j > i then j else i)) (fun _ _ _ => rfl) fun i j H Q _ q => ⟨i, j, rfl, q⟩)
theorem srv_min2 : Srv G (fun xs H Q => ∃ i j, xs = [V.int i, V.int j] ∧ Q (.int (if j < i then j else i)) H) gMin2 := srv_of_r2 (srv_i2 (fun i j => .int (if j < i then j else i)) (fun _ _ _ => rfl) fun i j H Q _ q => ⟨i, j, rfl, q⟩)
@[simp] def gAbs : Bf := keep1 fun s => match s with
  | .fz (.int i) => some (.fz (.int (if i < 0 then -i else i)))
  | _ => none
theorem srv_abs : Srv G (fun xs H Q => ∃ i, xs = [V.int i] ∧ Q (.int (if i < 0 then -i else i)) H) gAbs := srv1 fun Z R H s x ts vs env σ w Q c hg q => by
  split at hg
  · cases hg
    have e := c.top
    cases e
    exact ⟨_, rfl, q _ _ _ (c.push rfl)⟩
  · cases hg
@[simp] def gInt : Bf := keep1 fun s => match s with
  | .fz (.int i) => some (.fz (.int i))
  | .fz (.bl b) => some (.fz (.int (if b then 1 else 0)))
  | _ => none
theorem srv_int : Srv G (fun xs H Q => (∃ i, xs = [V.int i] ∧ Q (.int i) H) ∨ ∃ k, xs = [V.bl k] ∧ Q (.int (if k then 1 else 0)) H) gInt := srv1 fun Z R H s x ts vs env σ w Q c hg q => by
  split at hg
  · cases hg
    have e := c.top
    cases e
    exact .inl ⟨_, rfl, q _ _ _ (c.push rfl)⟩
  · cases hg
    have e := c.top
    cases e
    exact .inr ⟨_, rfl, q _ _ _ (c.push rfl)⟩
  · cases hg
@[simp] def gNeg : Bf := keep1 fun s => match s with
  | .fz (.int i) => some (.fz (.int (-i)))
  | _ => none
theorem srv_neg : Srv G (r1l (rU fun i => .int (-i))) gNeg := srv1 fun Z R H s x ts vs env σ w Q c hg q => by
  split at hg
  · cases hg
    have e := c.top
    cases e
    exact ⟨_, rfl, q _ _ _ (c.push rfl)⟩
  · cases hg
/-- list(x): a list or a tuple -/
@[simp] def elemsLT : Sv → Option (List Dt)
  | .fz (.tup ds) => some ds
  | s => elemsL s
@[simp] def gList : Bf := keep1 fun s => (elemsLT s).map fun ds => .lst (ds.map .fz)
theorem elemsLT_ok {Z : Zn} {R H : Hp} {s : Sv} {x : V} {ts : List Sv} {vs : List V} {env : Env} {σ : L2.St} {ds : List Dt} (c : Cfg G Z R H (s :: ts) (x :: vs) env σ) (h : elemsLT s = some ds) : ∃ a ws, x = .ref a ∧ RpDs G R ds ws ∧ (SqL G.K H a ws ∨ SqT G.K H a ws) := by
  unfold elemsLT at h
  split at h
  · cases h
    obtain ⟨a, ws, e, ha, hr⟩ := c.top
    exact ⟨a, ws, e, hr, .inr (sqT_mono c.wf ha)⟩
  · obtain ⟨a, ws, e, hr, hs, _⟩ := elemsL_kp c h
    exact ⟨a, ws, e, hr, .inl hs⟩
theorem srv_list : Srv G (fun xs H Q => ∃ p ys, xs = [V.ref p] ∧ (SqL G.K H p ys ∨ SqT G.K H p ys) ∧ ∀ l, H l = none → Q (.ref l) (upd H l (.lst ys))) gList := srv1 fun Z R H s x ts vs env σ w Q c hg q => by
  obtain ⟨ds, e, rfl⟩ := keep1_some hg
  obtain ⟨a, ws, rfl, hr, hs⟩ := elemsLT_ok c e
  exact ⟨a, ws, rfl, hs, fun l hl => q _ _ _ (c.newFz hr hl)⟩
@[simp] def gTuple : Bf := keep1 fun s => (elemsLT s).map fun ds => .fz (.tup ds)
theorem srv_tuple : Srv G (fun xs H Q => ∃ p ys, xs = [V.ref p] ∧ ((SqL G.K H p ys ∧ ∀ l, H l = none → Q (.ref l) (upd H l (.tup ys))) ∨ (SqT G.K H p ys ∧ Q (.ref p) H))) gTuple := srv1 fun Z R H s x ts vs env σ w Q c hg q => by
  obtain ⟨ds, e, rfl⟩ := keep1_some hg
  unfold elemsLT at e
  split at e
  · cases e
    obtain ⟨a, ws, rfl, ha, hr⟩ := c.top
    exact ⟨a, ws, rfl, .inr ⟨sqT_mono c.wf ha, q _ _ _ (c.push ⟨a, ws, rfl, ha, hr⟩)⟩⟩
  · obtain ⟨a, ws, rfl, hr, hs, _⟩ := elemsL_kp c e
    refine ⟨a, ws, rfl, .inl ⟨hs, fun l hl => ?_⟩⟩
    obtain ⟨c2, e2⟩ := c.grow (.tup ws) hl
    exact q _ _ _ (c2.push ⟨l, ws, rfl, .inl (.inl upd_same), hr.mono e2⟩)
/-- append, pop of an owned list -/
@[simp] def gApp : Bf := fun ss => match ss with
  | [.lst l, .fz d] => if l.length < 16777216 then some (.fz .non, [.lst (l ++ [.fz d]), .fz d]) else none
  | _ => none
theorem line24 : 16777216 ≤ sizeLine := by decide
theorem srv_app : Srv G (rml rAppend) gApp := fun Z R H ss ws ts vs env σ s ss' Q hl c hg hl2 q => by
  unfold gApp at hg
  split at hg
  · rename_i l d
    split at hg
    · rename_i hz
      cases hg
      match ws, hl with
      | [x, y], _ =>
        have c : Cfg G Z R H (.lst l :: .fz d :: ts) (x :: y :: vs) env σ := c
        have ry : RpD G R d y := c.top2
        obtain ⟨f, a, avs, g, rfl, ha, hs, _⟩ := c.topS
        have hal := hs.len
        refine ⟨a, avs, y, rfl, rfl, ha, by rw [← hal]; exact Nat.lt_of_lt_of_le hz line24, ?_⟩
        obtain ⟨av, h1, h2, c2⟩ := Cfg.appD (s := .fz d) (v := y) (c.push ry)
        rw [ha] at h1
        cases h1
        refine q .non R _ ?_
        exact Cfg.push (d := .non) c2 rfl
    · cases hg
  · cases hg
@[simp] def gPop : Bf := fun ss => match ss with
  | [.lst l] => match l.getLast? with
    | some s => some (s, [.lst l.dropLast])
    | none => none
  | _ => none
theorem srv_pop : Srv G (rml rPop) gPop := fun Z R H ss ws ts vs env σ s ss' Q hl c hg hl2 q => by
  unfold gPop at hg
  split at hg
  · rename_i l
    split at hg
    · rename_i s0 hs0
      cases hg
      match ws, hl with
      | [x], _ =>
        have c : Cfg G Z R H (.lst l :: ts) (x :: vs) env σ := c
        obtain ⟨f, a, avs, g, rfl, ha, hs, _⟩ := c.topS
        have hal := hs.len
        have hne : l ≠ [] := fun z => by rw [z] at hs0; cases hs0
        have hne2 : avs ≠ [] := fun z => hne (List.length_eq_zero_iff.mp (by rw [hal, z]; rfl))
        obtain ⟨avs', h1, h2, h3⟩ := Cfg.write (es := []) (evs := []) rfl c
        have e0 : avs' = avs := by
          rw [ha] at h1
          cases h1
          rfl
        subst e0
        refine ⟨a, avs', avs'.getLast hne2, rfl, rfl, ha, by rw [← List.getLast?_eq_getElem?]; exact List.getLast?_eq_some_getLast hne2, ?_⟩
        have el : l = l.dropLast ++ [s] := by
          have e1 : l.getLast hne = s := by rw [List.getLast?_eq_some_getLast hne] at hs0; exact Option.some.inj hs0
          rw [← e1]
          exact (List.dropLast_concat_getLast hne).symm
        have ea : avs' = avs'.dropLast ++ [avs'.getLast hne2] := (List.dropLast_concat_getLast hne2).symm
        refine q _ _ _ (h3 [s] [avs'.getLast hne2] l.dropLast avs'.dropLast fun H' g hr => ?_)
        rw [List.nil_append, List.nil_append] at hr
        rw [el, ea] at hr
        have hdl : l.dropLast.length = avs'.dropLast.length := by rw [List.length_dropLast, List.length_dropLast, hal]
        obtain ⟨g1, g2, r1, r2, z⟩ := RpSs.split' hdl hr
        exact ⟨g2, g1, r2, r1, fun b => by have := z b; omega⟩
    · cases hg
  · cases hg
/-- sorted, each once -/
def insU (k : Int) : List Int → List Int
  | [] => [k]
  | a :: r => if k < a then k :: a :: r else if k = a then a :: r else a :: insU k r
def uniq : List Int → List Int
  | [] => []
  | k :: r => insU k (uniq r)
theorem insU_mem {k x : Int} : ∀ {l : List Int}, x ∈ insU k l ↔ x = k ∨ x ∈ l
  | [] => by simp [insU]
  | a :: r => by
    unfold insU
    split
    · simp
    · split
      · rename_i h; subst h; simp
      · rw [List.mem_cons, insU_mem, List.mem_cons]
        constructor
        · rintro (h | h | h)
          · exact .inr (.inl h)
          · exact .inl h
          · exact .inr (.inr h)
        · rintro (h | h | h)
          · exact .inr (.inl h)
          · exact .inl h
          · exact .inr (.inr h)
theorem insU_lt {k : Int} : ∀ {l : List Int}, l.Pairwise (· < ·) → (insU k l).Pairwise (· < ·)
  | [], _ => List.pairwise_singleton _ _
  | a :: r, h => by
    obtain ⟨h1, h2⟩ := List.pairwise_cons.mp h
    unfold insU
    split
    · rename_i hk
      refine List.pairwise_cons.mpr ⟨fun y hy => ?_, h⟩
      rcases List.mem_cons.mp hy with rfl | hy
      · exact hk
      · exact Int.lt_trans hk (h1 y hy)
    · split
      · exact h
      · rename_i n1 n2
        refine List.pairwise_cons.mpr ⟨fun y hy => ?_, insU_lt h2⟩
        rcases insU_mem.mp hy with rfl | hy
        · omega
        · exact h1 y hy
theorem uniq_mem {x : Int} : ∀ {l : List Int}, x ∈ uniq l ↔ x ∈ l
  | [] => Iff.rfl
  | k :: r => by rw [uniq, insU_mem, uniq_mem, List.mem_cons]
theorem uniq_lt : ∀ {l : List Int}, (uniq l).Pairwise (· < ·)
  | [] => List.Pairwise.nil
  | k :: r => insU_lt uniq_lt
theorem lt_unique : ∀ {l m : List Int}, l.Pairwise (· < ·) → m.Pairwise (· < ·) → (∀ x, x ∈ l ↔ x ∈ m) → l = m
  | [], [], _, _, _ => rfl
  | [], b :: m, _, _, h => absurd ((h b).mpr List.mem_cons_self) (by simp)
  | a :: l, [], _, _, h => absurd ((h a).mp List.mem_cons_self) (by simp)
  | a :: l, b :: m, h1, h2, h => by
    obtain ⟨p1, p2⟩ := List.pairwise_cons.mp h1
    obtain ⟨q1, q2⟩ := List.pairwise_cons.mp h2
    have e : a = b := by
      rcases List.mem_cons.mp ((h a).mp List.mem_cons_self) with e | e
      · exact e
      · rcases List.mem_cons.mp ((h b).mpr List.mem_cons_self) with e' | e'
        · exact e'.symm
        · have := q1 a e; have := p1 b e'; omega
    subst e
    rw [lt_unique p2 q2 fun x => ?_]
    constructor
    · intro hx
      rcases List.mem_cons.mp ((h x).mp (List.mem_cons_of_mem _ hx)) with e | e
      · have := p1 x hx; omega
      · exact e
    · intro hx
      rcases List.mem_cons.mp ((h x).mpr (List.mem_cons_of_mem _ hx)) with e | e
      · have := q1 x hx; omega
      · exact e
theorem uniq_len : ∀ l : List Int, (uniq l).length ≤ l.length
  | [] => Nat.le_refl _
  | k :: r => by
    have h : ∀ m : List Int, (insU k m).length ≤ m.length + 1 := by
      intro m
      induction m with
      | nil => exact Nat.le_refl _
      | cons a m ih =>
        unfold insU
        split
        · exact Nat.le_refl _
        · split
          · exact Nat.le_succ _
          · simpa using ih
    rw [uniq, List.length_cons]
    exact Nat.le_trans (h _) (Nat.succ_le_succ (uniq_len r))
end
section
variable {X : Cx}
def rSetI (K : PySem.W.Frag) (w : World) : List V → Hp → VK → Prop := fun vs H Q => ∃ (a : Addr) (ns : List Int), vs = [V.ref a] ∧ SqL K H a (ns.map V.int) ∧ ns.length < 4000 ∧
  ∀ p, H p = none → Q (.ref p) (upd H p (SetO w p (fun k => decide (k ∈ ns)) (uniq ns).length))
theorem firstMet_mem (ns : List Int) (k : Int) : (firstMet (fun i => ns.getD i 0) ns.length).any (· == k) = decide (k ∈ ns) := by
  rw [firstMet_any]
  have e : (List.range ns.length).map (fun i => ns.getD i 0) = ns := by
    apply List.ext_getElem
    · rw [List.length_map, List.length_range]
    · intro i h1 h2
      rw [List.getElem_map, List.getElem_range, List.getD_eq_getElem?_getD, List.getElem?_eq_getElem h2]
      rfl
  rw [e]
  by_cases h : k ∈ ns
  · rw [decide_eq_true h]
    exact List.any_eq_true.mpr ⟨k, h, beq_self_eq_true k⟩
  · rw [decide_eq_false h]
    refine Bool.eq_false_iff.mpr fun z => h ?_
    obtain ⟨x, hx, e⟩ := List.any_eq_true.mp z
    rw [← beq_iff_eq.mp e]
    exact hx
theorem dedup_nodup : ∀ (l acc : List Int), acc.Nodup → (l.foldl step_dedup acc).Nodup
  | [], acc, h => h
  | a :: l, acc, h => by
    refine dedup_nodup l _ ?_
    unfold step_dedup
    split
    · exact h
    · rename_i hn
      refine List.nodup_append.mpr ⟨h, List.pairwise_singleton _ _, fun x hx y hy e => ?_⟩
      rw [List.mem_singleton.mp hy] at e
      subst e
      exact hn (List.any_eq_true.mpr ⟨x, hx, beq_self_eq_true x⟩)
theorem lt_nodup {l : List Int} (h : l.Pairwise (· < ·)) : l.Nodup := h.imp fun h => by omega
theorem firstMet_len (ns : List Int) : (firstMet (fun i => ns.getD i 0) ns.length).length = (uniq ns).length := by
  have n1 : (firstMet (fun i => ns.getD i 0) ns.length).Nodup := dedup_nodup _ _ List.nodup_nil
  have n2 := lt_nodup (uniq_lt (l := ns))
  have m : ∀ k, k ∈ firstMet (fun i => ns.getD i 0) ns.length ↔ k ∈ uniq ns := fun k => by
    rw [uniq_mem]
    have := firstMet_mem ns k
    constructor
    · intro h
      have t : ((firstMet (fun i => ns.getD i 0) ns.length).any fun x => x == k) = true := List.any_eq_true.mpr ⟨k, h, beq_self_eq_true k⟩
      rw [t] at this
      exact of_decide_eq_true this.symm
    · intro h
      rw [decide_eq_true h] at this
      obtain ⟨x, hx, e⟩ := List.any_eq_true.mp this
      rw [← beq_iff_eq.mp e]
      exact hx
  exact Nat.le_antisymm (n1.length_le_of_subset fun k hk => (m k).mp hk) (n2.length_le_of_subset fun k hk => (m k).mpr hk)
theorem cr_setI (hc : X.calm = true) : CallR X (.type "set") (rSetI X.K X.w) := by
  intro pins s σ H xs us Q I r h
  obtain ⟨a, ns, rfl, hs, hf, q⟩ := h
  rw [Vals.ref1 r]
  obtain ⟨its, rv, pl, hz⟩ := I.list hs
  have hn : H s.heap.objs.size = none := I.hok.fresh (Nat.le_refl _)
  have hlen : its.toArray.size = ns.length := by rw [List.size_toArray, ← rv.length, List.length_map]
  refine call_set_R (ns := ns) (I.ok.hd hc) pl.isList (by simpa using rv.ints) (by rw [hlen]; unfold scanBound; omega) fun h' tk R k => ?_
  rw [hlen, firstMet_len] at R
  have e : (fun k' => (firstMet (fun i => ns.getD i 0) ns.length).any (· == k')) = fun k => decide (k ∈ ns) := funext fun k => firstMet_mem ns k
  rw [e] at R
  exact ⟨.ref s.heap.objs.size, upd H s.heap.objs.size (SetO X.w s.heap.objs.size (fun k => decide (k ∈ ns)) (uniq ns).length), I.laid (t' := tk) k (Nat.le_refl _) (setO_new R), rfl, q _ hn⟩
end
section
variable {C : Str → Addr} {X : Cx} {W : WX} {a : Expr} {fA : Env → Res (List Arg × Env)}
def gSortSet : Bf := keep1 fun s => (intsS s).bind fun ns => if ns.length < 64 then some (.lst ((uniq ns).map fun i => .fz (.int i))) else none
theorem ints_rp {G : Gd} {R : Hp} : ∀ ns : List Int, RpDs G R (ns.map Dt.int) (ns.map V.int)
  | [] => rfl
  | n :: ns => ⟨_, _, rfl, rfl, ints_rp ns⟩
/-- sorted(set(xs)), xs a list of ints -/
theorem ve_sortSet {p q pos pos2 : Pos} (hc : X.calm = true) (hg : Gl X "sorted") (hm : X.mg "sorted" = none) (hg2 : Gl X "set") (hm2 : X.mg "set" = none) (ha : VA C X W [a] fA) (hs : starEach [a] X.env = (false, eval a X.env) :: starEach [] X.env := by rfl)
    (hs2 : starEach [.Call (.Name "set" q) [a] [] pos2] X.env = (false, eval (.Call (.Name "set" q) [a] [] pos2) X.env) :: starEach [] X.env := by rfl) (hpl : (backTo pos2 (starEach [] X.env)).any (·.1) = false := by rfl) (hpl2 : (backTo pos (starEach [] X.env)).any (·.1) = false := by rfl) :
    VE C X W (.Call (.Name "sorted" p) [.Call (.Name "set" q) [a] [] pos2] [] pos) (eCall gSortSet fA) := by
  refine ⟨fun Z => pe_imp (pe_callB (id := "sorted") (cr_sortedSet hc) hg hm PyProof.Rows.boot_sorted (pa_cons (pe_callTy (T := "set") (cr_setI hc) hg2 hm2 boot_set (ha.run Z) (by decide) (by decide) hs hpl) pa_nil hs2) (by decide) (by decide) hs2 hpl2) fun σ H Q h => ?_⟩
  refine AR.bind h fun R1 H1 ts vs as ws e c o => ?_
  obtain ⟨ss, tw, t, c⟩ := c
  unfold finA at o
  split at o
  · exact o.elim
  · rename_i p hp
    obtain ⟨out, e'⟩ := p
    obtain ⟨c1, l1⟩ := take_all t hp c
    split at o
    · exact o.elim
    · rename_i q hq
      obtain ⟨s, ss'⟩ := q
      split at o
      · rename_i hl
        obtain ⟨s0, rfl⟩ : ∃ s0, out = [s0] := by
          unfold gSortSet keep1 at hq
          split at hq
          · rename_i s0 he
            exact ⟨s0, he⟩
          · cases hq
        obtain ⟨x, rfl⟩ : ∃ x, ws = [x] := by
          match ws, l1 with
          | [x], _ => exact ⟨x, rfl⟩
        have c1 : Cfg (gd X C) Z R1 H1 (s0 :: ts) (x :: vs) e' σ := c1
        have hq : ((intsS s0).bind fun ns => if ns.length < 64 then some (Sv.lst ((uniq ns).map fun i => .fz (.int i))) else none).map (fun r => (r, [s0])) = some (s, ss') := hq
        cases e1 : intsS s0 with
        | none => rw [e1] at hq; cases hq
        | some ns =>
          rw [e1] at hq
          have hq : (if ns.length < 64 then some (Sv.lst ((uniq ns).map fun i => .fz (.int i))) else none).map (fun r => (r, [s0])) = some (s, ss') := hq
          split at hq
          · rename_i h64
            cases hq
            obtain ⟨a', rfl, hsq⟩ := intsS_ok c1 e1
            refine ⟨a', ns, rfl, hsq, by omega, fun p hp' => ?_⟩
            obtain ⟨c2, e2⟩ := Cfg.grow (SetO X.w p (fun k => decide (k ∈ ns)) (uniq ns).length) c1 hp'
            refine ⟨p, _, _, rfl, upd_same, by have := uniq_len ns; omega, fun ns' p' h1 h2 h3 h4 => ?_⟩
            have en : ns' = uniq ns := lt_unique h1 uniq_lt fun x => by rw [h2, uniq_mem, decide_eq_true_iff]
            subst en
            have c3 := Cfg.newFz c2 (ints_rp (uniq ns)) h4
            rw [List.map_map] at c3
            exact o _ _ _ (put_ok t (ss := [s0]) (ws := [V.ref a']) (ts := .lst _ :: ts) (vs := .ref p' :: vs) rfl (Cfg.under (ss := [s0]) (ws := [V.ref a']) rfl c3))
          · cases hq
      · exact o.elim
end
end Fw
set_option Elab.async false
set_option linter.all false
set_option maxRecDepth 100000
set_option maxHeartbeats 1000000
/-! sorted(.., reverse=..), list(reversed(..)), isinstance, slices, op=. -/
namespace Fw
open PySem PySem.Spec PyProof.Rows L2
section
variable {C : Str → Addr} {X : Cx} {W : WX} {e : Expr} {es : List Expr} {fA : Env → Res (List Arg × Env)} {f : Ex}
theorem srv_sortedR {G : Gd} {b : Bool} : Srv G (rSrt G.K b) (gSorted b) := srv1 fun Z R H s x ts vs env σ w Q c hg q => sorted_core c hg q
theorem ve_sortedR {b : Bool} {p pos kp : Pos} {ki : Nat} {kpos : Pos} (hu : X.A.units + 64 < cLine) (hg : Gl X "sorted") (hm : X.mg "sorted" = none) (ha : VA C X W [e] fA)
    (he : backTo pos (starEach [e] X.env) = (false, eval e X.env) :: backTo pos (starEach [] X.env) := by rfl) (hpl : (backTo pos (starEach [e] X.env)).any (·.1) = false := by rfl)
    (hall : (backToKw pos (keywordEach [⟨some (Str.ofString "reverse"), .Constant (.bool b) ki kp, kpos⟩] X.env)).all (·.1.isSome) = true := by rfl) (hnone : (backToKw pos (keywordEach [⟨some (Str.ofString "reverse"), .Constant (.bool b) ki kp, kpos⟩] X.env)).any (·.1.isNone) = false := by rfl)
    (hks : (backToKw pos (keywordEach [⟨some (Str.ofString "reverse"), .Constant (.bool b) ki kp, kpos⟩] X.env)).filterMap (·.1) = [Str.ofString "reverse"] := by rfl) :
    VE C X W (.Call (.Name "sorted" p) [e] [⟨some (Str.ofString "reverse"), .Constant (.bool b) ki kp, kpos⟩] pos) (eCall (gSorted b) fA) :=
  ⟨fun Z => pe_imp (pe_callBK (cr_srtR (b := b) hu) hg hm PyProof.Rows.boot_sorted (ha.run Z) (pk_cons pe_bl pk_nil) (by decide) (by decide) he hpl hall hnone hks) fun σ H Q h => AR.bind h fun _ _ _ _ _ _ _ c o => ⟨rfl, fin_ok srv_sortedR c o⟩⟩
/-- list(reversed(xs)) -/
@[simp] def gLstRev : Bf := keep1 fun s => (elemsL s).map fun ds => .lst (ds.reverse.map .fz)
theorem RpDs.reverse {G : Gd} {R : Hp} : ∀ {ds : List Dt} {ws : List V}, RpDs G R ds ws → RpDs G R ds.reverse ws.reverse
  | [], _, h => by cases h; exact rfl
  | d :: ds, _, ⟨v, vr, q, h, r⟩ => by
    subst q
    rw [List.reverse_cons, List.reverse_cons]
    exact RpDs.append (RpDs.reverse r) ⟨v, [], rfl, h, rfl⟩
theorem srv_lstRev {G : Gd} : Srv G (r1l fun v H Q => ∃ (a : Addr) (xs : List V), v = .ref a ∧ SqL G.K H a xs ∧ ∀ q, H q = none → Q (.ref q) (upd H q (.lst xs.reverse))) gLstRev := srv1 fun Z R H s x ts vs env σ w Q c hg q => by
  obtain ⟨ds, e, rfl⟩ := keep1_some hg
  obtain ⟨a, ws, rfl, hr, hs, _⟩ := elemsL_kp c e
  exact ⟨a, ws, rfl, hs, fun l hl => q _ _ _ (c.newFz hr.reverse hl)⟩
theorem ve_lstRev {p p2 pos pos2 : Pos} (hc : X.calm = true) (hg : Gl X "list") (hm : X.mg "list" = none) (hg2 : Gl X "reversed") (hm2 : X.mg "reversed" = none) (he : VE C X W e f)
    (hs : starEach [e] X.env = (false, eval e X.env) :: starEach [] X.env := by rfl)
    (hs2 : starEach [.Call (.Name "reversed" p2) [e] [] pos2] X.env = (false, eval (.Call (.Name "reversed" p2) [e] [] pos2) X.env) :: starEach [] X.env := by rfl) :
    VE C X W (.Call (.Name "list" p) [.Call (.Name "reversed" p2) [e] [] pos2] [] pos) (eUn gLstRev f) :=
  ⟨fun Z => pe_imp (pe_lstRev hc hg hm hg2 hm2 (he.run Z) hs hs2) fun σ H Q h => h.bind fun _ _ _ _ _ _ _ c o => by
    obtain ⟨ss, tw, t, c1⟩ := c.tmp
    exact fin_ok srv_lstRev ⟨ss, tw, t, c1⟩ o⟩
/-! ### isinstance of a built-in class -/
@[simp] def tyS : Sv → Option String
  | .fz .non => some "NoneType"
  | .fz (.bl _) => some "bool"
  | .fz (.int _) => some "int"
  | .fz (.str _) => some "str"
  | .fz (.tup _) => some "tuple"
  | .fz (.lst _) => some "list"
  | .lst _ => some "list"
  | _ => none
/-- subtypes among these -/
def subT (t T : String) : Bool := t == T || (t == "bool" && T == "int")
@[simp] def gIsi (T : String) : Bf := keep1 fun s => (tyS s).map fun t => .fz (.bl (subT t T))
theorem tyS_ok {Z : Zn} {R H : Hp} {s : Sv} {x : V} {ts : List Sv} {vs : List V} {env : Env} {σ : L2.St} {t : String} (c : Cfg (gd X C) Z R H (s :: ts) (x :: vs) env σ) (h : tyS s = some t) : TyX X.K H x (.type t) := by
  have sub := c.wf
  obtain ⟨f, r⟩ := c.topS
  cases s with
  | lst ss =>
    cases h
    obtain ⟨a, ws, g, rfl, ha, _⟩ := r
    exact .base (.lst ha)
  | ins c ns ss => cases h
  | fz d =>
    obtain ⟨r, _⟩ := r
    cases d with
    | non => cases h; cases r; exact .base .non
    | bl b => cases h; cases r; exact .base (.bl b)
    | int i => cases h; cases r; exact .base (.int i)
    | str z => cases h; cases r; exact .base (.str z)
    | tup ds =>
      cases h
      obtain ⟨a, ws, rfl, ha, _⟩ := r
      rcases ha with (ha | ⟨o, ha⟩) | ha
      · exact .base (.tup (sub _ _ ha))
      · exact .fTuple (sub _ _ ha)
      · obtain ⟨o, its, n, ho, hc, _⟩ := ha
        exact TyX.kTuple ho hc
    | lst ds =>
      cases h
      obtain ⟨a, ws, rfl, ha, _⟩ := r
      rcases ha with (ha | ⟨o, ha⟩) | ha
      · exact .base (.lst (sub _ _ ha))
      · exact .base (.frz (sub _ _ ha))
      · obtain ⟨o, its, n, ho, hc, _⟩ := ha
        exact .kList ho hc
    | obj _ _ _ => cases h
def kitT (K : PySem.W.Frag) (T : String) : Prop := ∀ t ∈ ["NoneType", "bool", "int", "str", "tuple", "list"], PySem.W.kitOne K (.type t) (.type T) = some (subT t T)
theorem ve_isi {T : Str} {T' : String} {p q pos : Pos} (hg : Gl X "isinstance") (hm : X.mg "isinstance" = none) (hg2 : Gl X T) (hm2 : X.mg T = none) (hb : bootBuiltins T = some (.type T')) (hk : kitT X.K T') (he : VE C X W e f) (hn : T ≠ "__name__" := by decide) (hd : (T == ("__debug__" : Str)) = false := by decide)
    (hs : starEach [e, .Name T q] X.env = (false, eval e X.env) :: starEach [.Name T q] X.env := by rfl) (hs2 : starEach [.Name T q] X.env = (false, eval (.Name T q) X.env) :: starEach [] X.env := by rfl) (hpl : (backTo pos (starEach [.Name T q] X.env)).any (·.1) = false := by rfl) :
    VE C X W (.Call (.Name "isinstance" p) [e, .Name T q] [] pos) (eUn (gIsi T') f) :=
  ⟨fun Z => pe_imp (pe_callB (id := "isinstance") call_isi hg hm PyProof.Rows.boot_isinstance (pa_cons (he.run Z) (pa_cons (pe_bltn hg2 hm2 hb (v := .ty T') rfl hn hd) pa_nil hs2) hs) (by decide) (by decide) hs hpl) fun σ H Q h => h.bind fun R1 H1 ts vs a v e c o => by
    obtain ⟨ss, tw, t, c1⟩ := c.tmp
    have key : Srv (gd X C) (r1l fun x H Q => ∃ t b, TyX X.K H x t ∧ PySem.W.kitOne X.K t (.type T') = some b ∧ Q (.bl b) H) (gIsi T') := srv1 fun Z R H s x ts vs env σ w Q c hg q => by
      obtain ⟨t, e, rfl⟩ := keep1_some hg
      have ht : t ∈ ["NoneType", "bool", "int", "str", "tuple", "list"] := by
        unfold tyS at e
        split at e <;> first | (cases e; decide) | cases e
      exact ⟨_, _, tyS_ok c e, hk t ht, q _ _ _ (c.push rfl)⟩
    obtain ⟨t', b, h1, h2, h3⟩ : (r1l fun x H Q => ∃ t b, TyX X.K H x t ∧ PySem.W.kitOne X.K t (.type T') = some b ∧ Q (.bl b) H) [v] H1 Q := fin_ok key ⟨ss, tw, t, c1⟩ o
    exact ⟨v, .ty T', t', .type T', b, rfl, .ty _, h1, h2, h3⟩⟩
/-! ### op= of a name -/
@[simp] def ipB (g : Int → Int → Int) (pc : Int → Int → Bool) : Bf := keep2 (i2 pc fun i j => .int (g i j))
@[simp] def sAug (i : Nat) (g : Bf) (f : Ex) : Stx := fun env => match env[i]? with
  | some (some (.fz d)) => ofE (f env) fun a e => match a with
    | .v s => match g [.fz d, s] with
      | some (s', _) => putS i s' e
      | none => .bad
    | .r _ => .bad
  | _ => .bad
theorem i2_some {p : Int → Int → Bool} {f : Int → Int → Dt} {s u w : Sv} (h : i2 p f s u = some w) : ∃ i j, s = .fz (.int i) ∧ u = .fz (.int j) ∧ p i j = true ∧ w = .fz (f i j) := by
  unfold i2 at h
  split at h
  · split at h
    · rename_i hp
      cases h
      exact ⟨_, _, rfl, rfl, hp, rfl⟩
    · cases h
  · cases h
theorem vs_augI {P : List Bool} {i : Nat} {x : Str} {op : Operator} {g : Int → Int → Int} {pc : Int → Int → Bool} {ti : TIp} {pos pos' : Pos} (hN : X.N.Nodup) (hi : X.N[i]? = some x) (hx : Loc X.env.scope x) (hP : P.getD i false = false) (he : VE C X W e f)
    (ho : PIp X op ti) (hti : ∀ i j H Q, pc i j = true → Q (.int (g i j)) H → ti (.int i) (.int j) H Q)
    (hf : X.fn x = true ∨ X.env.scope.names.lookup x = some .local := by first | exact .inl rfl | exact .inr rfl | assumption) :
    VS C X W P (.AugAssign (.Name x pos') op e pos) (sAug i (ipB g pc) f) :=
  ⟨fun Z pz => ps_imp (ps_aug hN hi hx (he.run Z) ho hf) fun D σ H h => by
    obtain ⟨R, env, c, o⟩ := h
    unfold sAug at o
    split at o
    · rename_i d hd
      obtain ⟨v0, hv, r0⟩ := c.slot hd
      refine ⟨v0, hv, R, [.fz d], [v0], env, c.push r0, ?_⟩
      revert o
      generalize f env = r
      intro o
      match r, o with
      | .exc x e, o => exact o σ
      | .ok (a, e), o =>
        intro v R' H' c'
        cases a with
        | r i => exact o.elim
        | v s =>
          have o : OutS (gd X C) Z W D (match ipB g pc [.fz d, s] with
            | some (s', _) => putS i s' e
            | none => .bad) := o
          have c' : Cfg (gd X C) Z R' H' (s :: .fz d :: []) (v :: v0 :: []) e σ := c'
          cases hq : ipB g pc [.fz d, s] with
          | none => rw [hq] at o; exact o.elim
          | some p =>
            obtain ⟨s', ss'⟩ := p
            rw [hq] at o
            have o : OutS (gd X C) Z W D (putS i s' e) := o
            unfold ipB keep2 at hq
            have hq : (i2 pc (fun i j => .int (g i j)) (.fz d) s).map (fun r => (r, [.fz d, s])) = some (s', ss') := hq
            cases h2 : i2 pc (fun i j => .int (g i j)) (.fz d) s with
            | none => rw [h2] at hq; cases hq
            | some w =>
              rw [h2] at hq
              cases hq
              obtain ⟨i1, j1, e1, rfl, hpc, rfl⟩ := i2_some h2
              cases e1
              have q1 : v = .int _ := c'.top
              have q2 : v0 = .int _ := c'.top2
              subst q1 q2
              exact hti i1 j1 H' _ hpc (putS_ok (pz i hP) (c'.pop.pop.push (d := .int (g i1 j1)) rfl) o)
    · exact o.elim⟩
theorem vs_addI {P : List Bool} {i : Nat} {x : Str} {pos pos' : Pos} (hN : X.N.Nodup) (hi : X.N[i]? = some x) (hx : Loc X.env.scope x) (hP : P.getD i false = false) (he : VE C X W e f) (hf : X.fn x = true ∨ X.env.scope.names.lookup x = some .local := by first | exact .inl rfl | exact .inr rfl | assumption) :
    VS C X W P (.AugAssign (.Name x pos') .Add e pos) (sAug i (ipB (· + ·) pT) f) := vs_augI hN hi hx hP he ip_add (fun i j H Q _ q => ⟨i, j, rfl, rfl, q⟩) hf
theorem vs_subI {P : List Bool} {i : Nat} {x : Str} {pos pos' : Pos} (hN : X.N.Nodup) (hi : X.N[i]? = some x) (hx : Loc X.env.scope x) (hP : P.getD i false = false) (he : VE C X W e f) (hf : X.fn x = true ∨ X.env.scope.names.lookup x = some .local := by first | exact .inl rfl | exact .inr rfl | assumption) :
    VS C X W P (.AugAssign (.Name x pos') .Sub e pos) (sAug i (ipB (· - ·) pT) f) := vs_augI hN hi hx hP he ip_sub (fun i j H Q _ q => ⟨i, j, rfl, rfl, q⟩) hf
end
end Fw
set_option Elab.async false
set_option linter.all false
set_option maxRecDepth 100000
set_option maxHeartbeats 1000000
/-! Short rules for the printed derivations (printed by mkgen.py). -/
namespace Fw
open PySem PySem.Spec PyProof.Rows L2

/-! ### comparisons as tests -/
/-- a test whose value is a truth value -/
@[simp] def tBl (f : Ex) : Tx := fun env => (f env).bind fun p => match p.1 with
  | .v (.fz (.bl b)) => .ok (b, p.2)
  | _ => .bad
section
variable {C : Str → Addr} {X : Cx} {W : WX} {P : List Bool} {a b c d : Expr} {fa fb fc f g : Ex} {pos : Pos} {tf tg th : Tx}
theorem tBl_er {G : Gd} {Z : Zn} {σ : L2.St} {H : Hp} {Q : Bool → Hp → Prop} (h : TTR G Z W (tBl f) σ H Q) : ER G Z W f σ H fun v H' => ∃ k, v = .bl k ∧ Q k H' := by
  obtain ⟨R, ts, vs, env, c, o⟩ := h
  refine ⟨R, ts, vs, env, c, ?_⟩
  unfold tBl at o
  revert o
  generalize f env = r
  intro o
  match r, o with
  | .exc x e, o => exact o
  | .ok (a, e), o =>
    intro v R' H' c'
    simp only [Res.bind] at o
    split at o
    · rename_i k
      have c' : Cfg G Z R' H' (.fz (.bl k) :: ts) (v :: vs) e σ := c'
      exact ⟨k, c'.top, o R' H' c'.pop⟩
    · exact o.elim
theorem vt_cmp {op : CmpOp} {r : R2} {g : List Sv → Option (Sv × List Sv)} (hr : OpR X (compareOp op) r) (hg : Srv (gd X C) (r2l r) g) (ha : VE C X W a fa) (hb : VE C X W b fb) (hm : behindInMarks op b = false) : VT C X W (.Compare a [op] [b] pos) (tBl (eBin g fa fb)) :=
  ⟨fun Z => pt_imp (pt_cmpR hr (ha.run Z) (hb.run Z) hm) fun σ H Q h => er_two (k := fun a b e => finA g [a, b] e) (tBl_er h) fun _ _ _ _ _ _ _ _ _ c o => fin_ok hg c o⟩
def tIfX (t f g : Tx) : Tx := fun env => (t env).bind fun p => if p.1 then f p.2 else g p.2
/-- a op b op' c -/
def eChn (g g' : Bf) (fa fb fc : Ex) : Ex := fun env => (fa env).bind fun p => (fb p.2).bind fun q => match p.1, q.1 with
  | .v s, .v (.fz d) => match g [s, .fz d] with
    | some (.fz (.bl true), _) => (fc q.2).bind fun r => finA g' [.v (.fz d), r.1] r.2
    | some (.fz (.bl false), _) => .ok (.v (.fz (.bl false)), q.2)
    | _ => .bad
  | _, _ => .bad
end
/-! ### blocks, loops, frames -/
instance {N : List Str} {sc scope : Scope} {own : List (Str × Nat)} : Decidable (scope.kind = .function ∧ (∀ y ∈ scope.names, scope.names.lookup y.1 = some y.2) ∧ (∀ p ∈ own, N[p.2]? = some p.1) ∧ (∀ y ∈ scope.names, y.2 = .free → sc.names.lookup y.1 = some .cell ∨ sc.names.lookup y.1 = some .free) ∧ (∀ y ∈ scope.names, y.2 = .local ∨ y.2 = .cell → y.1 ∈ own.map (·.1) ∨ y.1 ∉ N)) := inferInstance
def blkB (N : List Str) (sc scope : Scope) (own : List (Str × Nat)) : Bool := decide (scope.kind = .function ∧ (∀ y ∈ scope.names, scope.names.lookup y.1 = some y.2) ∧ (∀ p ∈ own, N[p.2]? = some p.1) ∧ (∀ y ∈ scope.names, y.2 = .free → sc.names.lookup y.1 = some .cell ∨ sc.names.lookup y.1 = some .free) ∧ (∀ y ∈ scope.names, y.2 = .local ∨ y.2 = .cell → y.1 ∈ own.map (·.1) ∨ y.1 ∉ N))
theorem blk_of {N : List Str} {sc scope : Scope} {own : List (Str × Nat)} (h : blkB N sc scope own = true) : BlkOk N sc scope own :=
  let ⟨h1, h2, h3, h4, h5⟩ := of_decide_eq_true h
  ⟨h1, h2, h3, h4, h5⟩
def ppB (P P' : List Bool) : Bool := (List.range P.length).all fun j => !(P.getD j false) || P'.getD j false
theorem pp_of {P P' : List Bool} (h : ppB P P' = true) : ∀ j, P.getD j false = true → P'.getD j false = true := fun j hj => by
  by_cases hl : j < P.length
  · have := List.all_eq_true.mp h j (List.mem_range.mpr hl)
    rw [hj] at this
    exact this
  · rw [List.getD_eq_getElem?_getD, List.getElem?_eq_none (by omega)] at hj
    cases hj
section
variable {P : Program} {w : World} {K : PySem.W.Frag} {mg : Str → Option Value} {base : Heap} {N : List Str} {qual : Str} {scope : Scope} {f : Addr} {cd : Value} {A : Around} {outer : List PySem.Env} {s : Shared} {H : Hp} {E : XK}
theorem takes_cx : Takes (cxOf (L2.CX P w) P w K mg base N qual scope f cd A outer s H E) (fun c d _ H' => E c d H') := takes_of rfl rfl rfl rfl
theorem passes_cx : PassesOwn (model P w) (cxOf (L2.CX P w) P w K mg base N qual scope f cd A outer s H E).A (cxOf (L2.CX P w) P w K mg base N qual scope f cd A outer s H E).env (cxOf (L2.CX P w) P w K mg base N qual scope f cd A outer s H E).xe := passes_of (X := cxOf (L2.CX P w) P w K mg base N qual scope f cd A outer s H E) rfl
end
theorem takes_no {X : Cx} : Takes X Wno := fun _ _ ⟨_, _, _, _, _, _, _, _, _, _, _, _, _, _, _, _, w⟩ => w.elim

section
variable {C : Str → Addr} {X : Cx} {W : WX} {P : List Bool} {a b c d : Expr} {fa fb fc f g : Ex} {pos p q : Pos} {tf tg th : Tx} {fA : Env → Res (List Arg × Env)}
theorem n_add (ha : VE C X W a fa) (hb : VE C X W b fb) : VE C X W (.BinOp a .Add b pos) (eBin gAdd fa fb) := ve_op op_addS srv_add ha hb
theorem n_sub (ha : VE C X W a fa) (hb : VE C X W b fb) : VE C X W (.BinOp a .Sub b pos) (eBin gSub fa fb) := ve_op op_sub srv_sub ha hb
theorem n_mul (ha : VE C X W a fa) (hb : VE C X W b fb) : VE C X W (.BinOp a .Mult b pos) (eBin gMul fa fb) := ve_op op_mul srv_mul ha hb
theorem n_fdiv (ha : VE C X W a fa) (hb : VE C X W b fb) : VE C X W (.BinOp a .FloorDiv b pos) (eBin gDiv fa fb) := ve_op op_fdivN srv_div ha hb
theorem n_mod (ha : VE C X W a fa) (hb : VE C X W b fb) : VE C X W (.BinOp a .Mod b pos) (eBin gMod fa fb) := ve_op op_modN srv_mod ha hb
theorem n_pow (ha : VE C X W a fa) (hb : VE C X W b fb) : VE C X W (.BinOp a .Pow b pos) (eBin gPow fa fb) := ve_op op_pow srv_pow ha hb
theorem n_shl (ha : VE C X W a fa) (hb : VE C X W b fb) : VE C X W (.BinOp a .LShift b pos) (eBin gShl fa fb) := ve_op op_shl srv_shl ha hb
theorem n_shr (ha : VE C X W a fa) (hb : VE C X W b fb) : VE C X W (.BinOp a .RShift b pos) (eBin gShr fa fb) := ve_op op_shr srv_shr ha hb
theorem n_and (ha : VE C X W a fa) (hb : VE C X W b fb) : VE C X W (.BinOp a .BitAnd b pos) (eBin gAnd fa fb) := ve_op op_and srv_and ha hb
theorem n_or (ha : VE C X W a fa) (hb : VE C X W b fb) : VE C X W (.BinOp a .BitOr b pos) (eBin gOr fa fb) := ve_op op_or srv_or ha hb
theorem n_xor (ha : VE C X W a fa) (hb : VE C X W b fb) : VE C X W (.BinOp a .BitXor b pos) (eBin gXor fa fb) := ve_op op_xor srv_xor ha hb
theorem n_lt (ha : VE C X W a fa) (hb : VE C X W b fb) : VE C X W (.Compare a [.Lt] [b] pos) (eBin gLt fa fb) := ve_cmp op_lt srv_lt ha hb (nomark _)
theorem t_lt (ha : VE C X W a fa) (hb : VE C X W b fb) : VT C X W (.Compare a [.Lt] [b] pos) (tBl (eBin gLt fa fb)) := vt_cmp op_lt srv_lt ha hb (nomark _)
theorem n_le (ha : VE C X W a fa) (hb : VE C X W b fb) : VE C X W (.Compare a [.LtE] [b] pos) (eBin gLe fa fb) := ve_cmp op_le srv_le ha hb (nomark _)
theorem t_le (ha : VE C X W a fa) (hb : VE C X W b fb) : VT C X W (.Compare a [.LtE] [b] pos) (tBl (eBin gLe fa fb)) := vt_cmp op_le srv_le ha hb (nomark _)
theorem n_gt (ha : VE C X W a fa) (hb : VE C X W b fb) : VE C X W (.Compare a [.Gt] [b] pos) (eBin gGt fa fb) := ve_cmp op_gt srv_gt ha hb (nomark _)
theorem t_gt (ha : VE C X W a fa) (hb : VE C X W b fb) : VT C X W (.Compare a [.Gt] [b] pos) (tBl (eBin gGt fa fb)) := vt_cmp op_gt srv_gt ha hb (nomark _)
theorem n_ge (ha : VE C X W a fa) (hb : VE C X W b fb) : VE C X W (.Compare a [.GtE] [b] pos) (eBin gGe fa fb) := ve_cmp op_ge srv_ge ha hb (nomark _)
theorem t_ge (ha : VE C X W a fa) (hb : VE C X W b fb) : VT C X W (.Compare a [.GtE] [b] pos) (tBl (eBin gGe fa fb)) := vt_cmp op_ge srv_ge ha hb (nomark _)
theorem n_eq (hu : X.A.units + 65 < cLine) (ha : VE C X W a fa) (hb : VE C X W b fb) : VE C X W (.Compare a [.Eq] [b] pos) (eBin gEq fa fb) := ve_cmp (op_eqD (Nat.lt_of_succ_lt hu)) srv_eq ha hb (nomark _)
theorem t_eq (hu : X.A.units + 65 < cLine) (ha : VE C X W a fa) (hb : VE C X W b fb) : VT C X W (.Compare a [.Eq] [b] pos) (tBl (eBin gEq fa fb)) := vt_cmp (op_eqD (Nat.lt_of_succ_lt hu)) srv_eq ha hb (nomark _)
theorem n_ne (hu : X.A.units + 65 < cLine) (ha : VE C X W a fa) (hb : VE C X W b fb) : VE C X W (.Compare a [.NotEq] [b] pos) (eBin gNe fa fb) := ve_cmp (op_neD (Nat.lt_of_succ_lt hu)) srv_ne ha hb (nomark _)
theorem t_ne (hu : X.A.units + 65 < cLine) (ha : VE C X W a fa) (hb : VE C X W b fb) : VT C X W (.Compare a [.NotEq] [b] pos) (tBl (eBin gNe fa fb)) := vt_cmp (op_neD (Nat.lt_of_succ_lt hu)) srv_ne ha hb (nomark _)
theorem n_is (ha : VE C X W a fa) (hb : VE C X W b fb) : VE C X W (.Compare a [.Is] [b] pos) (eBin gIsN fa fb) := ve_cmp op_isN srv_isN ha hb (nomark _)
theorem t_is (ha : VE C X W a fa) (hb : VE C X W b fb) : VT C X W (.Compare a [.Is] [b] pos) (tBl (eBin gIsN fa fb)) := vt_cmp op_isN srv_isN ha hb (nomark _)
theorem n_isnot (ha : VE C X W a fa) (hb : VE C X W b fb) : VE C X W (.Compare a [.IsNot] [b] pos) (eBin gNotN fa fb) := ve_cmp op_notN srv_notN ha hb (nomark _)
theorem t_isnot (ha : VE C X W a fa) (hb : VE C X W b fb) : VT C X W (.Compare a [.IsNot] [b] pos) (tBl (eBin gNotN fa fb)) := vt_cmp op_notN srv_notN ha hb (nomark _)
theorem n_in (hu : X.A.units + 65 < cLine) (ha : VE C X W a fa) (hb : VE C X W b fb) (hm : behindInMarks .In b = false := by rfl) : VE C X W (.Compare a [.In] [b] pos) (eBin gIn fa fb) := ve_cmp (op_inA hu) srv_in ha hb hm
theorem t_in (hu : X.A.units + 65 < cLine) (ha : VE C X W a fa) (hb : VE C X W b fb) (hm : behindInMarks .In b = false := by rfl) : VT C X W (.Compare a [.In] [b] pos) (tBl (eBin gIn fa fb)) := vt_cmp (op_inA hu) srv_in ha hb hm
theorem n_notin (hu : X.A.units + 65 < cLine) (ha : VE C X W a fa) (hb : VE C X W b fb) (hm : behindInMarks .NotIn b = false := by rfl) : VE C X W (.Compare a [.NotIn] [b] pos) (eBin gNotIn fa fb) := ve_cmp (op_notInA hu) srv_notIn ha hb hm
theorem t_notin (hu : X.A.units + 65 < cLine) (ha : VE C X W a fa) (hb : VE C X W b fb) (hm : behindInMarks .NotIn b = false := by rfl) : VT C X W (.Compare a [.NotIn] [b] pos) (tBl (eBin gNotIn fa fb)) := vt_cmp (op_notInA hu) srv_notIn ha hb hm
theorem n_neg (ha : VE C X W a fa) : VE C X W (.UnaryOp .USub a pos) (eUn gNeg fa) := ve_un un_neg srv_neg ha
theorem n_ix (ha : VE C X W a fa) (hb : VE C X W b fb) (hp : PlainIx b := by intro _ _; rfl) : VE C X W (.Subscript a b pos) (eBin gIx fa fb) := ve_ix ix_seq srv_ix ha hb hp
theorem c_len (hm : X.mg "len" = none) (ha : VA C X W [a] fA) (hg : Gl X "len" := by rfl) (hs : starEach [a] X.env = (false, eval a X.env) :: starEach [] X.env := by rfl) (hpl : (backTo pos (starEach [] X.env)).any (·.1) = false := by rfl) : VE C X W (.Call (.Name "len" p) [a] [] pos) (eCall gLen fA) := ve_callB (r := _) call_len srv_len hg hm (by decide +kernel) ha (by decide) (by decide) hs hpl
theorem c_sum (hc : X.calm = true) (hm : X.mg "sum" = none) (ha : VA C X W [a] fA) (hg : Gl X "sum" := by rfl) (hs : starEach [a] X.env = (false, eval a X.env) :: starEach [] X.env := by rfl) (hpl : (backTo pos (starEach [] X.env)).any (·.1) = false := by rfl) : VE C X W (.Call (.Name "sum" p) [a] [] pos) (eCall gSum fA) := ve_callB (r := _) (cr_sum hc) srv_sum hg hm (by decide +kernel) ha (by decide) (by decide) hs hpl
theorem c_all (hc : X.calm = true) (hm : X.mg "all" = none) (ha : VA C X W [a] fA) (hg : Gl X "all" := by rfl) (hs : starEach [a] X.env = (false, eval a X.env) :: starEach [] X.env := by rfl) (hpl : (backTo pos (starEach [] X.env)).any (·.1) = false := by rfl) : VE C X W (.Call (.Name "all" p) [a] [] pos) (eCall gAll fA) := ve_callB (r := _) (cr_all hc) srv_all hg hm (by decide +kernel) ha (by decide) (by decide) hs hpl
theorem c_any (hc : X.calm = true) (hm : X.mg "any" = none) (ha : VA C X W [a] fA) (hg : Gl X "any" := by rfl) (hs : starEach [a] X.env = (false, eval a X.env) :: starEach [] X.env := by rfl) (hpl : (backTo pos (starEach [] X.env)).any (·.1) = false := by rfl) : VE C X W (.Call (.Name "any" p) [a] [] pos) (eCall gAny fA) := ve_callB (r := _) (cr_any hc) srv_any hg hm (by decide +kernel) ha (by decide) (by decide) hs hpl
theorem c_abs (hm : X.mg "abs" = none) (ha : VA C X W [a] fA) (hg : Gl X "abs" := by rfl) (hs : starEach [a] X.env = (false, eval a X.env) :: starEach [] X.env := by rfl) (hpl : (backTo pos (starEach [] X.env)).any (·.1) = false := by rfl) : VE C X W (.Call (.Name "abs" p) [a] [] pos) (eCall gAbs fA) := ve_callB (r := _) call_abs srv_abs hg hm (by decide +kernel) ha (by decide) (by decide) hs hpl
theorem c_int (hm : X.mg "int" = none) (ha : VA C X W [a] fA) (hg : Gl X "int" := by rfl) (hs : starEach [a] X.env = (false, eval a X.env) :: starEach [] X.env := by rfl) (hpl : (backTo pos (starEach [] X.env)).any (·.1) = false := by rfl) : VE C X W (.Call (.Name "int" p) [a] [] pos) (eCall gInt fA) := ve_callTy (r := _) call_int1 srv_int hg hm (by decide +kernel) ha (by decide) (by decide) hs hpl
theorem c_list (hm : X.mg "list" = none) (ha : VA C X W [a] fA) (hg : Gl X "list" := by rfl) (hs : starEach [a] X.env = (false, eval a X.env) :: starEach [] X.env := by rfl) (hpl : (backTo pos (starEach [] X.env)).any (·.1) = false := by rfl) : VE C X W (.Call (.Name "list" p) [a] [] pos) (eCall gList fA) := ve_callTy (r := _) call_list_of srv_list hg hm (by decide +kernel) ha (by decide) (by decide) hs hpl
theorem c_tuple (hm : X.mg "tuple" = none) (ha : VA C X W [a] fA) (hg : Gl X "tuple" := by rfl) (hs : starEach [a] X.env = (false, eval a X.env) :: starEach [] X.env := by rfl) (hpl : (backTo pos (starEach [] X.env)).any (·.1) = false := by rfl) : VE C X W (.Call (.Name "tuple" p) [a] [] pos) (eCall gTuple fA) := ve_callTy (r := _) call_tuple_of srv_tuple hg hm (by decide +kernel) ha (by decide) (by decide) hs hpl
theorem c_max (hc : X.calm = true) (hm : X.mg "max" = none) (ha : VA C X W [a] fA) (hg : Gl X "max" := by rfl) (hs : starEach [a] X.env = (false, eval a X.env) :: starEach [] X.env := by rfl) (hpl : (backTo pos (starEach [] X.env)).any (·.1) = false := by rfl) : VE C X W (.Call (.Name "max" p) [a] [] pos) (eCall gMax fA) := ve_callB (r := _) (cr_max hc) srv_max hg hm (by decide +kernel) ha (by decide) (by decide) hs hpl
theorem c_min (hc : X.calm = true) (hm : X.mg "min" = none) (ha : VA C X W [a] fA) (hg : Gl X "min" := by rfl) (hs : starEach [a] X.env = (false, eval a X.env) :: starEach [] X.env := by rfl) (hpl : (backTo pos (starEach [] X.env)).any (·.1) = false := by rfl) : VE C X W (.Call (.Name "min" p) [a] [] pos) (eCall gMin fA) := ve_callB (r := _) (cr_min hc) srv_min hg hm (by decide +kernel) ha (by decide) (by decide) hs hpl
theorem c_sorted (hu : X.A.units + 65 < cLine) (hm : X.mg "sorted" = none) (ha : VA C X W [a] fA) (hg : Gl X "sorted" := by rfl) (hs : starEach [a] X.env = (false, eval a X.env) :: starEach [] X.env := by rfl) (hpl : (backTo pos (starEach [] X.env)).any (·.1) = false := by rfl) : VE C X W (.Call (.Name "sorted" p) [a] [] pos) (eCall (gSorted false) fA) := ve_callB (r := _) (cr_srt (Nat.lt_of_succ_lt hu)) srv_sorted hg hm (by decide +kernel) ha (by decide) (by decide) hs hpl
theorem c_max2 (hc : X.calm = true) (hm : X.mg "max" = none) (ha : VA C X W [a, b] fA) (hg : Gl X "max" := by rfl) (hs : starEach [a, b] X.env = (false, eval a X.env) :: starEach [b] X.env := by rfl) (hpl : (backTo pos (starEach [b] X.env)).any (·.1) = false := by rfl) : VE C X W (.Call (.Name "max" p) [a, b] [] pos) (eCall gMax2 fA) := ve_callB (call_max2 hc) srv_max2 hg hm (by decide +kernel) ha (by decide) (by decide) hs hpl
theorem c_min2 (hc : X.calm = true) (hm : X.mg "min" = none) (ha : VA C X W [a, b] fA) (hg : Gl X "min" := by rfl) (hs : starEach [a, b] X.env = (false, eval a X.env) :: starEach [b] X.env := by rfl) (hpl : (backTo pos (starEach [b] X.env)).any (·.1) = false := by rfl) : VE C X W (.Call (.Name "min" p) [a, b] [] pos) (eCall gMin2 fA) := ve_callB (call_min2 hc) srv_min2 hg hm (by decide +kernel) ha (by decide) (by decide) hs hpl
theorem m_app {o : Expr} {fo : Ex} {apos cpos : Pos} (ho : VE C X W o fo) (ha : VA C X W [a] fA)
    (hat : attributeBase o "append" X.env (eval o X.env) = eval o X.env := by rfl) (hb : ((backTo cpos (starEach [a] X.env)).all (!·.1) && (backToKw cpos (keywordEach [] X.env)).all (·.1.isSome) && decide ([a].length + ([] : List Keyword).length + (if ([] : List Keyword).isEmpty = true then 0 else 1) < 30)) = true := by rfl)
    (hp : (apos.endLine == cpos.line) = true := by rfl) (hs : starEach [a] X.env = (false, eval a X.env) :: starEach [] X.env := by rfl) (hpl2 : (backTo cpos (starEach [] X.env)).any (·.1) = false := by rfl) : VE C X W (.Call (.Attribute o "append" apos) [a] [] cpos) (eMeth "list" gApp fo fA) :=
  ve_meth PySem.F.plainAttrs_list PySem.F.slot_list_append PySem.F.type_list_append mt_append srv_app (by decide) ho ha hat hb hp hs hpl2
theorem m_pop {o : Expr} {fo : Ex} {apos cpos : Pos} (ho : VE C X W o fo)
    (hat : attributeBase o "pop" X.env (eval o X.env) = eval o X.env := by rfl) (hp : (apos.endLine == cpos.line) = true := by rfl) : VE C X W (.Call (.Attribute o "pop" apos) [] [] cpos) (eMeth0 "list" gPop fo) :=
  ve_meth0 PySem.F.plainAttrs_list PySem.F.slot_list_pop PySem.F.type_list_pop mt_pop srv_pop (by decide) ho hat hp

/-- one of our own defs, as callers use it -/
structure OwnD (P : Program) (w : World) (K : PySem.W.Frag) (mg : Str → Option Value) (base : Heap) (C : Str → Addr) (x : Str) (k : Nat) (m : Fn) : Prop where
  ex : ∃ (f : Addr) (fd : FuncData) (ps : List Str), FnOk P w K mg base (L2.CX P w) k f fd ps (FSp ⟨P, w, K, C⟩ m) ∧ mg x = some (.ref f) ∧ PySem.W.keepIn K (.ref f) = true ∧ Binds K fd ps []
theorem n_own {es : List Expr} {x : Str} {m : Fn} {k : Nat} (D : OwnD X.prog X.w X.K X.mg X.base C x k m) (hr : Room k X.A) (tk : Takes X W) (ha : VA C X W (a :: es) fA) (hg : Gl X x := by rfl)
    (hdb : (x == ("__debug__" : Str)) = false := by decide) (he : starEach (a :: es) X.env = (false, eval a X.env) :: starEach es X.env := by rfl) (hpl : (backTo pos (starEach es X.env)).any (·.1) = false := by rfl) :
    VE C X W (.Call (.Name x p) (a :: es) [] pos) (eOwn m fA) := by
  obtain ⟨f, fd, ps, h1, h2, h3, h4⟩ := D.ex
  exact ve_own h1 hr hg h2 h3 h4 tk ha hdb he hpl
theorem units65 {k : Nat} {A : Around} (r : Room k A) : A.units + 65 < cLine := by have := r.un; omega

end
end Fw
set_option Elab.async false
set_option linter.all false
set_option maxRecDepth 100000
set_option maxHeartbeats 1000000
/-! isinstance's answers of the built-in classes; fuel; a global constant. -/
namespace Fw
open PySem PySem.Spec PyProof.Rows L2
theorem kit_bool {K : PySem.W.Frag} : kitT K "bool" := by
  intro t ht
  simp only [List.mem_cons, List.not_mem_nil, or_false] at ht
  rcases ht with rfl | rfl | rfl | rfl | rfl | rfl <;> kernel_rfl!
theorem kit_int {K : PySem.W.Frag} : kitT K "int" := by
  intro t ht
  simp only [List.mem_cons, List.not_mem_nil, or_false] at ht
  rcases ht with rfl | rfl | rfl | rfl | rfl | rfl <;> kernel_rfl!
theorem kit_str {K : PySem.W.Frag} : kitT K "str" := by
  intro t ht
  simp only [List.mem_cons, List.not_mem_nil, or_false] at ht
  rcases ht with rfl | rfl | rfl | rfl | rfl | rfl <;> kernel_rfl!
theorem kit_tuple {K : PySem.W.Frag} : kitT K "tuple" := by
  intro t ht
  simp only [List.mem_cons, List.not_mem_nil, or_false] at ht
  rcases ht with rfl | rfl | rfl | rfl | rfl | rfl <;> kernel_rfl!
theorem kit_list {K : PySem.W.Frag} : kitT K "list" := by
  intro t ht
  simp only [List.mem_cons, List.not_mem_nil, or_false] at ht
  rcases ht with rfl | rfl | rfl | rfl | rfl | rfl <;> kernel_rfl!
def fuel : Nat := 1000000
theorem cx_false {P : Program} {w : World} {H : Hp} {s s' : Shared} {e : Value} (h : L2.CX P w [] H s (fun _ _ _ => False) e s') : False := by
  obtain ⟨_, _, _, _, _, _, _, _, _, _, _, _, z⟩ := h
  exact z
/-- the law's promise, from what its mirror computes -/
theorem law_sp {P : Program} {w : World} {K : PySem.W.Frag} {C : Str → Addr} {m : Fn} {H : Hp} {a : Addr} {ns : List Int} (h : ∃ e, m [.fz (.lst (ns.map .int))] = .ok (.fz (.bl true), e)) (hS : SqL K H a (ns.map V.int)) :
    FSp ⟨P, w, K, C⟩ m [.ref a] H (fun v _ => v = .bl true) (fun _ _ _ => False) := by
  obtain ⟨e, h⟩ := h
  refine ⟨H, [.fz (.lst (ns.map .int))], fun _ => 0, ⟨.ref a, [], fun _ => 0, fun _ => 0, rfl, ⟨⟨a, _, rfl, hS, ints_rp ns⟩, fun _ => rfl⟩, ⟨rfl, fun _ => rfl⟩, fun _ => rfl⟩, ⟨Same.refl H, fun _ => Nat.zero_le _, fun a h => absurd rfl h, fun a h => absurd rfl h⟩, ?_⟩
  rw [h]
  exact fun v R' H' g k r1 _ _ _ => r1.1
end Fw
set_option Elab.async false
set_option linter.all false
set_option maxRecDepth 100000
set_option maxHeartbeats 1000000
/-! Loops and comprehensions of the mirrors; data of ints; what equality and membership say of them. -/
namespace Fw
open PySem PySem.Spec PyProof.Rows L2
/-! ### lists of ints, tuples of ints, lists of these -/
def Dr (L : List Int) : Sv := .lst (L.map fun i => .fz (.int i))
abbrev T (ns : List Int) : Dt := .tup (ns.map .int)
abbrev LT (xs : List (List Int)) : Dt := .lst (xs.map T)
def DT (xs : List (List Int)) : Sv := .lst (xs.map fun x => .fz (T x))
theorem allFz_map : ∀ ds : List Dt, allFz (ds.map .fz) = some ds
  | [] => rfl
  | d :: ds => by rw [List.map_cons, allFz, allFz_map ds]; rfl
@[simp] theorem allFz_ints (L : List Int) : allFz (L.map fun i => .fz (.int i)) = some (L.map .int) := by
  have := allFz_map (L.map .int)
  rw [List.map_map] at this
  exact this
@[simp] theorem allFz_T (L : List (List Int)) : allFz (L.map fun i => .fz (.tup (i.map .int))) = some (L.map T) := by
  have := allFz_map (L.map T)
  rw [List.map_map] at this
  exact this
@[simp] theorem allFz_bls (L : List Bool) : allFz (L.map fun i => .fz (.bl i)) = some (L.map .bl) := by
  have := allFz_map (L.map .bl)
  rw [List.map_map] at this
  exact this
@[simp] theorem intsOf_map : ∀ L : List Int, intsOf (L.map .int) = some L
  | [] => rfl
  | d :: ds => by rw [List.map_cons, intsOf, intsOf_map ds]; rfl
@[simp] theorem blsOf_map : ∀ L : List Bool, blsOf (L.map .bl) = some L
  | [] => rfl
  | d :: ds => by rw [List.map_cons, blsOf, blsOf_map ds]; rfl
theorem Dt.int_inj : Function.Injective Dt.int := fun _ _ h => Dt.int.inj h
theorem pys_ints (ns : List Int) : pys (ns.map .int) = ns.map .int := by rw [pys_map, List.map_map]; rfl
theorem pys_T (xs : List (List Int)) : pys (xs.map T) = xs.map fun x => .tuple (x.map .int) := by
  rw [pys_map, List.map_map]
  apply List.map_congr_left
  intro x _
  show PyData.tuple (pys (x.map .int)) = _
  rw [pys_ints]
theorem lay_ints (ns : List Int) : PyData.canLayAll0 (ns.map .int) = true := by
  induction ns with
  | nil => rfl
  | cons n ns ih => rw [List.map_cons, PyData.canLayAll0, ih]; rfl
theorem depth_ints : ∀ ns : List Int, PyData.depthAll (ns.map .int) ≤ 1
  | [] => Nat.zero_le _
  | n :: ns => by rw [List.map_cons, PyData.depthAll]; exact Nat.max_le.mpr ⟨by rw [PyData.depth]; decide, depth_ints ns⟩
theorem lay_T : ∀ xs : List (List Int), PyData.canLayAll0 (xs.map fun x => PyData.tuple (x.map .int)) = true
  | [] => rfl
  | x :: xs => by
    rw [List.map_cons, PyData.canLayAll0, lay_T xs, PyData.canLay0, lay_ints]
    rfl
theorem depth_T : ∀ xs : List (List Int), PyData.depthAll (xs.map fun x => PyData.tuple (x.map .int)) ≤ 2
  | [] => Nat.zero_le _
  | x :: xs => by
    rw [List.map_cons, PyData.depthAll, PyData.depth]
    have := depth_ints x
    exact Nat.max_le.mpr ⟨by omega, depth_T xs⟩
@[simp] theorem ok_int (i : Int) : okD (.int i) = true := by unfold okD; rfl
@[simp] theorem ok_bl (i : Bool) : okD (.bl i) = true := by unfold okD; rfl
@[simp] theorem ok_T (ns : List Int) : okD (.tup (ns.map .int)) = true := by
  unfold okD Dt.py SeqAt.shaped
  rw [pys_ints, PyData.canLay0, lay_ints, PyData.depth]
  have := depth_ints ns
  simp
  omega
@[simp] theorem ok_LT (xs : List (List Int)) : okD (.lst (xs.map T)) = true := by
  unfold okD Dt.py SeqAt.shaped
  rw [pys_T, PyData.canLay0, lay_T, PyData.depth]
  have := depth_T xs
  simp
  omega
@[simp] theorem ok_LI (xs : List Int) : okD (.lst (xs.map .int)) = true := by
  unfold okD Dt.py SeqAt.shaped
  rw [pys_ints, PyData.canLay0, lay_ints, PyData.depth]
  have := depth_ints xs
  simp
  omega
@[simp] theorem ok_nil : okD (.lst []) = true := by unfold okD; rfl
@[simp] theorem ok_tnil : okD (.tup []) = true := by unfold okD; rfl
theorem eqv_ints : ∀ a b : List Int, PyData.eqvAll (a.map .int) (b.map .int) = decide (a = b)
  | [], [] => rfl
  | [], _ :: _ => rfl
  | _ :: _, [] => rfl
  | x :: a, y :: b => by
    rw [List.map_cons, List.map_cons, PyData.eqvAll, eqv_ints a b, PyData.eqv]
    by_cases h : x = y <;> simp [h]
theorem eqv_T : ∀ a b : List (List Int), PyData.eqvAll (a.map fun x => PyData.tuple (x.map .int)) (b.map fun x => PyData.tuple (x.map .int)) = decide (a = b)
  | [], [] => rfl
  | [], _ :: _ => rfl
  | _ :: _, [] => rfl
  | x :: a, y :: b => by
    rw [List.map_cons, List.map_cons, PyData.eqvAll, eqv_T a b, PyData.eqv, eqv_ints]
    by_cases h : x = y <;> simp [h]
@[simp] theorem eq_int (i j : Int) : eqD (.int i) (.int j) = some (decide (i = j)) := by
  unfold eqD
  simp [Dt.py, PyData.eqv]
  exact (by by_cases h : i = j <;> simp [h] : (i == j) = decide (i = j))
@[simp] theorem ne_int (i j : Int) : neD (.int i) (.int j) = some (!decide (i = j)) := by
  unfold neD
  simp only [ok_int, Bool.and_self, if_true, Dt.py, PyData.eqv]
  exact congrArg (fun b => some (!b)) (by by_cases h : i = j <;> simp [h] : (i == j) = decide (i = j))
@[simp] theorem eq_bl (i j : Bool) : eqD (.bl i) (.bl j) = some (i == j) := by
  unfold eqD
  simp [Dt.py, PyData.eqv]
@[simp] theorem ne_bl (i j : Bool) : neD (.bl i) (.bl j) = some (!(i == j)) := by
  unfold neD
  simp [Dt.py, PyData.eqv]
@[simp] theorem eq_T (a b : List Int) : eqD (.tup (a.map .int)) (.tup (b.map .int)) = some (decide (a = b)) := by
  unfold eqD
  simp [Dt.py, PyData.eqv, pys_ints, eqv_ints]
@[simp] theorem ne_T (a b : List Int) : neD (.tup (a.map .int)) (.tup (b.map .int)) = some (!decide (a = b)) := by
  unfold neD
  simp [Dt.py, PyData.eqv, pys_ints, eqv_ints]
@[simp] theorem eq_LT (a b : List (List Int)) : eqD (.lst (a.map T)) (.lst (b.map T)) = some (decide (a = b)) := by
  unfold eqD
  simp only [ok_LT, Bool.and_self, if_true, Dt.py, PyData.eqv, pys_T, eqv_T]
@[simp] theorem ne_LT (a b : List (List Int)) : neD (.lst (a.map T)) (.lst (b.map T)) = some (!decide (a = b)) := by
  unfold neD
  simp only [ok_LT, Bool.and_self, if_true, Dt.py, PyData.eqv, pys_T, eqv_T]
@[simp] theorem ne_LTnil (a : List (List Int)) : neD (.lst (a.map T)) (.lst []) = some (!decide (a = [])) := ne_LT a []
@[simp] theorem in_T (k : Int) (a : List Int) : inD (.int k) (.tup (a.map .int)) = some (decide (k ∈ a)) := by
  unfold inD
  simp only [ok_int, ok_T, Bool.and_self, if_true, pys_ints]
  congr 1
  induction a with
  | nil => rfl
  | cons x a ih =>
    rw [List.map_cons, List.any_cons, ih]
    simp only [Dt.py, PyData.eqv]
    by_cases h : x = k
    · subst h; simp
    · have h2 : ¬ k = x := fun e => h e.symm
      have h3 : (x == k) = false := by simpa using h
      rw [h3]
      simp [h2]
@[simp] theorem in_LI (k : Int) (a : List Int) : inD (.int k) (.lst (a.map .int)) = some (decide (k ∈ a)) := by
  unfold inD
  simp only [ok_int, ok_LI, Bool.and_self, if_true, pys_ints]
  congr 1
  induction a with
  | nil => rfl
  | cons x a ih =>
    rw [List.map_cons, List.any_cons, ih]
    simp only [Dt.py, PyData.eqv]
    by_cases h : x = k
    · subst h; simp
    · have h2 : ¬ k = x := fun e => h e.symm
      have h3 : (x == k) = false := by simpa using h
      rw [h3]
      simp [h2]
@[simp] theorem in_LT (k : List Int) (a : List (List Int)) : inD (.tup (k.map .int)) (.lst (a.map T)) = some (decide (k ∈ a)) := by
  unfold inD
  simp only [ok_T, ok_LT, Bool.and_self, if_true, pys_T]
  congr 1
  induction a with
  | nil => rfl
  | cons x a ih =>
    rw [List.map_cons, List.any_cons, ih]
    simp only [Dt.py, PyData.eqv, pys_ints, eqv_ints]
    by_cases h : x = k
    · subst h; simp
    · have h2 : ¬ k = x := fun e => h e.symm
      simp [h, h2]
theorem small_of {i : Int} (h0 : -1000000000 ≤ i) (h1 : i ≤ 1000000000) : small62 i = true := by
  have e : (2 : Int) ^ 62 = 4611686018427387904 := by decide
  unfold small62
  rw [e]
  exact decide_eq_true ⟨by omega, by omega⟩
/-! ### steps -/
theorem seq_next {a b : Stx} {e e1 : Env} (h : a e = .next e1) : sSeq a b e = b e1 := by unfold sSeq; rw [h]
theorem seq_ret {a b : Stx} {e e1 : Env} {s : Sv} (h : a e = .ret s e1) : sSeq a b e = .ret s e1 := by unfold sSeq; rw [h]
theorem set_next {i : Nat} {f : Ex} {e e1 : Env} {s : Sv} (h : f e = .ok (.v s, e1)) (hi : i < e1.length) : sSet i f e = .next (e1.set i (some s)) := by
  unfold sSet ofE putS
  rw [h]
  simp only
  rw [if_pos hi]
theorem drop_next {f : Ex} {e e1 : Env} {a : Arg} (h : f e = .ok (a, e1)) : sDrop f e = .next e1 := by
  unfold sDrop ofE
  rw [h]
theorem ret_ret {f : Ex} {e e1 : Env} {s : Sv} (h : f e = .ok (.v s, e1)) : sRet f e = .ret s e1 := by
  unfold sRet ofE
  rw [h]
theorem if_t {t : Tx} {a b : Stx} {e e1 : Env} (h : t e = .ok (true, e1)) : sIf t a b e = a e1 := by
  unfold sIf
  rw [h]
  rfl
theorem if_f {t : Tx} {a b : Stx} {e e1 : Env} (h : t e = .ok (false, e1)) : sIf t a b e = b e1 := by
  unfold sIf
  rw [h]
  rfl
theorem bl_ok {f : Ex} {e e1 : Env} {b : Bool} (h : f e = .ok (.v (.fz (.bl b)), e1)) : tBl f e = .ok (b, e1) := by
  unfold tBl
  rw [h]
  rfl
theorem of_bl {f : Ex} {e e1 : Env} {b : Bool} (h : f e = .ok (.v (.fz (.bl b)), e1)) : tOf f e = .ok (b, e1) := by
  unfold tOf
  rw [h]
  rfl
theorem not_ok {t : Tx} {e e1 : Env} {b : Bool} (h : t e = .ok (b, e1)) : tNotX t e = .ok (!b, e1) := by
  unfold tNotX
  rw [h]
  rfl
theorem bin_ok {g : Bf} {fa fb : Ex} {e e1 e2 e3 : Env} {a b : Arg} {ss ss' : List Sv} {s : Sv} (h1 : fa e = .ok (a, e1)) (h2 : fb e1 = .ok (b, e2)) (h3 : takeA [a, b] e2 = some (ss, e3)) (h4 : g ss = some (s, ss')) (h5 : ss'.length = ss.length) : eBin g fa fb e = .ok (.v s, putA [a, b] (ss'.map some) e3) := by
  unfold eBin finA
  rw [h1]
  simp only [Res.bind]
  rw [h2]
  simp only [Res.bind]
  rw [h3]
  simp only
  rw [h4]
  simp only
  rw [if_pos h5]
theorem call_ok {g : Bf} {fa : Ax} {e e1 e2 : Env} {as : List Arg} {ss ss' : List Sv} {s : Sv} (h1 : fa e = .ok (as, e1)) (h3 : takeA as e1 = some (ss, e2)) (h4 : g ss = some (s, ss')) (h5 : ss'.length = ss.length) : eCall g fa e = .ok (.v s, putA as (ss'.map some) e2) := by
  unfold eCall finA
  rw [h1]
  simp only [Res.bind]
  rw [h3]
  simp only
  rw [h4]
  simp only
  rw [if_pos h5]
theorem own_ok {m : Fn} {fa : Ax} {e e1 e2 : Env} {as : List Arg} {ss : List Sv} {s : Sv} {oo : Env} (h1 : fa e = .ok (as, e1)) (h2 : takeA as e1 = some (ss, e2)) (h3 : m ss = .ok (s, oo)) : eOwn m fa e = .ok (.v s, putA as oo e2) := by
  unfold eOwn finF
  rw [h1]
  simp only [Res.bind]
  rw [h2]
  simp only
  rw [h3]
theorem fz_ok {f : Ex} {e e1 : Env} {s : Sv} (h : f e = .ok (.v s, e1)) : eFz f e = .ok (.v (.fz s.frz), e1) := by
  unfold eFz
  rw [h]
  rfl
theorem cons_ok {f : Ex} {g : Ax} {e e1 e2 : Env} {a : Arg} {as : List Arg} (h : f e = .ok (a, e1)) (h2 : g e1 = .ok (as, e2)) : aCons f g e = .ok (a :: as, e2) := by
  unfold aCons
  rw [h]
  simp only [Res.bind]
  rw [h2]
theorem one_ok {f : Ex} {e e1 : Env} {a : Arg} (h : f e = .ok (a, e1)) : aOne f e = .ok ([a], e1) := cons_ok h rfl
theorem for_next {fA : Ax} {gI : List Sv → Option (List Dt)} {P' : List Bool} {g : Tgt} {body : Stx} {e e1 e2 e3 : Env} {as : List Arg} {ss : List Sv} {items : List Dt} (h1 : fA e = .ok (as, e1)) (h2 : takeA as e1 = some (ss, e2)) (h3 : gI ss = some items) (h4 : refsIn P' as = true)
    (h5 : forL g body items e2 = .next e3) : sFor fA gI P' g body e = .next (putA as (ss.map some) e3) := by
  unfold sFor
  rw [h1]
  simp only
  rw [h2]
  simp only
  rw [h3]
  simp only
  rw [if_pos h4, h5]
  rfl
theorem for_ret {fA : Ax} {gI : List Sv → Option (List Dt)} {P' : List Bool} {g : Tgt} {body : Stx} {e e1 e2 e3 : Env} {as : List Arg} {ss : List Sv} {items : List Dt} {s : Sv} (h1 : fA e = .ok (as, e1)) (h2 : takeA as e1 = some (ss, e2)) (h3 : gI ss = some items) (h4 : refsIn P' as = true)
    (h5 : forL g body items e2 = .ret s e3) : sFor fA gI P' g body e = .ret s (putA as (ss.map some) e3) := by
  unfold sFor
  rw [h1]
  simp only
  rw [h2]
  simp only
  rw [h3]
  simp only
  rw [if_pos h4, h5]
  rfl
theorem lc_ok {fA : Ax} {gI : List Sv → Option (List Dt)} {own : List Nat} {g : Tgt} {t : Tx} {elt : Ex} {e e1 e2 e3 : Env} {as : List Arg} {ss out : List Sv} {items : List Dt} (h1 : fA e = .ok (as, e1)) (h2 : takeA as e1 = some (ss, e2)) (h3 : gI ss = some items)
    (h4 : compL g t elt own items (wipeE e2 own) = .ok (out, e3)) (h5 : out.length ≤ 1000000) : eLc fA gI own g t elt e = .ok (.v (.lst out), putA as (ss.map some) (restE e2 (wipeE e3 own) own)) := by
  unfold eLc
  rw [h1]
  simp only
  rw [h2]
  simp only
  rw [h3]
  simp only
  rw [h4]
  simp only
  rw [if_pos (Nat.le_trans h5 (by decide))]
theorem fn_ret {n : Nat} {P : List Bool} {f : Stx} {ss : List Sv} {e e1 : Env} {s : Sv} (hl : ss.length = P.length) (he : ss.map some ++ List.replicate (n - ss.length) none = e) (h : f e = .ret s e1) : fnSem n P f ss = .ok (s, maskE P e1) := by
  unfold fnSem
  rw [if_pos hl, he, h]
/-! ### loops -/
theorem forL_inv (P : Env → Prop) {g : Tgt} {body : Stx} : ∀ {ds : List Dt} {e : Env}, (∀ d ∈ ds, ∀ e, P e → ∃ e1, g d e = some e1 ∧ ∃ e2, body e1 = .next e2 ∧ P e2) → P e → ∃ e2, forL g body ds e = .next e2 ∧ P e2
  | [], e, _, h0 => ⟨e, rfl, h0⟩
  | d :: ds, e, h, h0 => by
    obtain ⟨e1, h1, e2, h2, h3⟩ := h d List.mem_cons_self e h0
    obtain ⟨e3, h4, h5⟩ := forL_inv P (g := g) (body := body) (ds := ds) (e := e2) (fun d hd => h d (List.mem_cons_of_mem _ hd)) h3
    exact ⟨e3, by rw [forL, h1]; simp only [h2]; exact h4, h5⟩
/-- the items counted -/
theorem forL_ix (P : Nat → Env → Prop) {g : Tgt} {body : Stx} {ds : List Dt} {e : Env} (h : ∀ (i : Nat) (d : Dt), ds[i]? = some d → ∀ e, P i e → ∃ e1, g d e = some e1 ∧ ∃ e2, body e1 = .next e2 ∧ P (i + 1) e2) (h0 : P 0 e) : ∃ e2, forL g body ds e = .next e2 ∧ P ds.length e2 := by
  induction ds generalizing P e with
  | nil => exact ⟨e, rfl, h0⟩
  | cons d ds ih =>
    obtain ⟨e1, h1, e2, h2, h3⟩ := h 0 d rfl e h0
    obtain ⟨e3, h4, h5⟩ := ih (fun i => P (i + 1)) (fun i d hd => h (i + 1) d hd) h3
    exact ⟨e3, by rw [forL, h1]; simp only [h2]; exact h4, h5⟩
/-- a comprehension without an end of its own: the slots stand as they stood -/
theorem compL_map {g : Tgt} {t : Tx} {elt : Ex} {own : List Nat} {e : Env} (p : Dt → Bool) (v : Dt → Sv) : ∀ {ds : List Dt},
    (∀ d ∈ ds, ∃ e1, g d e = some e1 ∧ ∃ e2, t e1 = .ok (p d, e2) ∧ (p d = false → wipeE e2 own = e) ∧ (p d = true → ∃ e3, elt e2 = .ok (.v (v d), e3) ∧ wipeE e3 own = e)) →
    compL g t elt own ds e = .ok ((ds.filter p).map v, e)
  | [], _ => rfl
  | d :: ds, h => by
    obtain ⟨e1, h1, e2, h2, h3, h4⟩ := h d List.mem_cons_self
    have ih := compL_map (g := g) (t := t) (elt := elt) (own := own) (e := e) p v (ds := ds) fun d hd => h d (List.mem_cons_of_mem _ hd)
    rw [compL, h1]
    simp only [h2]
    cases hp : p d with
    | false =>
      rw [List.filter_cons_of_neg (by rw [hp]; exact Bool.false_ne_true)]
      simp only [Bool.false_eq_true, if_false]
      rw [h3 hp, ih]
    | true =>
      obtain ⟨e3, h5, h6⟩ := h4 hp
      rw [List.filter_cons_of_pos hp]
      simp only [if_true, h5, h6, ih]
      rfl
/-- one that changes slots: P -/
theorem compL_inv (P : Env → Prop) {g : Tgt} {t : Tx} {elt : Ex} {own : List Nat} (v : Dt → Sv) : ∀ {ds : List Dt} {e : Env}, P e →
    (∀ d ∈ ds, ∀ e, P e → ∃ e1, g d e = some e1 ∧ ∃ b e2, t e1 = .ok (b, e2) ∧ (b = false → P (wipeE e2 own)) ∧ (b = true → ∃ e3, elt e2 = .ok (.v (v d), e3) ∧ P (wipeE e3 own))) →
    ∃ (sub : List Dt) (e' : Env), compL g t elt own ds e = .ok (sub.map v, e') ∧ P e' ∧ sub.Sublist ds
  | [], e, h0, _ => ⟨[], e, rfl, h0, List.Sublist.slnil⟩
  | d :: ds, e, h0, h => by
    obtain ⟨e1, h1, b, e2, h2, h3, h4⟩ := h d List.mem_cons_self e h0
    rw [compL, h1]
    simp only [h2]
    cases b with
    | false =>
      obtain ⟨sub, e', q1, q2, q3⟩ := compL_inv P (g := g) (t := t) (elt := elt) (own := own) v (h3 rfl) fun d hd => h d (List.mem_cons_of_mem _ hd)
      exact ⟨sub, e', by simpa using q1, q2, q3.cons _⟩
    | true =>
      obtain ⟨e3, h5, h6⟩ := h4 rfl
      obtain ⟨sub, e', q1, q2, q3⟩ := compL_inv P (g := g) (t := t) (elt := elt) (own := own) v h6 fun d hd => h d (List.mem_cons_of_mem _ hd)
      exact ⟨d :: sub, e', by simp only [if_true, h5, q1]; rfl, q2, q3.cons₂ _⟩
end Fw
set_option Elab.async false
set_option linter.all false
set_option maxRecDepth 100000
set_option maxHeartbeats 1000000
/-! sorted of ints, of tuples of ints. -/
namespace Fw
open PySem PySem.Spec PyProof.Rows L2
open PySem.W (dataLe alike alikeAll keyToks)
def leI (rev : Bool) (a b : Int) : Bool := cond rev (decide (b ≤ a)) (decide (a ≤ b))
def srtI (rev : Bool) (L : List Int) : List Int := L.mergeSort (leI rev)
theorem le_ints (rev : Bool) : dataLe rev (fun b : Int => PyData.int b) = leI rev := by
  cases rev with
  | false => exact PySem.W.dataLe_int fun b => b
  | true => exact PySem.W.dataGe_int fun b => b
theorem srtD_ints (rev : Bool) (L : List Int) : srtD rev (L.map .int) = (srtI rev L).map .int := by
  unfold srtD srtI
  rw [PySem.W.sort_maps (r := leI rev) (s := dataLe rev Dt.py) Dt.int fun a _ b _ => ?_]
  show leI rev a b = dataLe rev (fun b : Int => PyData.int b) a b
  rw [le_ints]
theorem sortable_ints (L : List Int) : sortableB (L.map .int) = true := by
  unfold sortableB
  simp only [Bool.and_eq_true, Bool.or_eq_true, List.all_eq_true]
  refine ⟨⟨.inl (.inr fun d hd => ?_), fun d hd e he => ?_⟩, fun d hd => ?_⟩
  · obtain ⟨i, _, rfl⟩ := List.mem_map.mp hd; rfl
  · obtain ⟨i, _, rfl⟩ := List.mem_map.mp hd
    obtain ⟨j, _, rfl⟩ := List.mem_map.mp he
    rfl
  · obtain ⟨i, _, rfl⟩ := List.mem_map.mp hd
    rw [PyData.depth]
    decide
theorem datOf_Dr (L : List Int) : datOf (Dr L) = some (.lst (L.map .int)) := by simp [Dr]
theorem datOf_DT (xs : List (List Int)) : datOf (DT xs) = some (.lst (xs.map T)) := by simp [DT]
theorem sorted_ints (rev : Bool) (L : List Int) : gSorted rev [Dr L] = some (Dr (srtI rev L), [Dr L]) := by
  unfold gSorted keep1
  simp only [datOf_Dr, pys_ints, lay_ints, sortable_ints, Bool.and_self, if_true]
  rw [srtD_ints, List.map_map]
  rfl
def leT (a b : List Int) : Bool := decide (a ≤ b)
def srtT (xs : List (List Int)) : List (List Int) := xs.mergeSort leT
theorem le_T : dataLe false (fun b : List Int => PyData.tuple (b.map .int)) = leT := PySem.W.dataLe_rows fun b => b
theorem srtD_T (xs : List (List Int)) : srtD false (xs.map T) = (srtT xs).map T := by
  unfold srtD srtT
  rw [PySem.W.sort_maps (r := leT) (s := dataLe false Dt.py) T fun a _ b _ => ?_]
  have h : ∀ a : List Int, (T a).py = PyData.tuple (a.map .int) := fun a => by show PyData.tuple (pys (a.map .int)) = _; rw [pys_ints]
  show leT a b = dataLe false Dt.py (T a) (T b)
  rw [← le_T]
  show dataLe false id (PyData.tuple (a.map .int)) (PyData.tuple (b.map .int)) = dataLe false id (T a).py (T b).py
  rw [h, h]
/-- no empty one among several -/
def Srt1 (xs : List (List Int)) : Prop := (∀ x ∈ xs, x ≠ []) ∨ xs.length ≤ 1
theorem alike_ints : ∀ a b : List Int, alikeAll (a.map .int) (b.map .int) = true
  | [], _ => by unfold alikeAll; rfl
  | _ :: _, [] => by unfold alikeAll; rfl
  | x :: a, y :: b => by
    rw [List.map_cons, List.map_cons, alikeAll, alike_ints a b]
    rfl
theorem sortable_T {xs : List (List Int)} (h : Srt1 xs) : sortableB (xs.map fun x => PyData.tuple (x.map .int)) = true := by
  unfold sortableB
  simp only [Bool.and_eq_true, Bool.or_eq_true, List.all_eq_true]
  refine ⟨⟨?_, fun d hd e he => ?_⟩, fun d hd => ?_⟩
  · rcases h with h | h
    · refine .inl (.inl fun d hd => ?_)
      obtain ⟨x, hx, rfl⟩ := List.mem_map.mp hd
      cases x with
      | nil => exact absurd rfl (h [] hx)
      | cons a r => rfl
    · refine .inr ⟨decide_eq_true (by rw [List.length_map]; exact h), fun d hd => ?_⟩
      obtain ⟨x, hx, rfl⟩ := List.mem_map.mp hd
      rfl
  · obtain ⟨i, _, rfl⟩ := List.mem_map.mp hd
    obtain ⟨j, _, rfl⟩ := List.mem_map.mp he
    show alikeAll _ _ = true
    exact alike_ints i j
  · obtain ⟨i, _, rfl⟩ := List.mem_map.mp hd
    rw [PyData.depth]
    have := depth_ints i
    exact decide_eq_true (by omega)
theorem sorted_T {xs : List (List Int)} (h : Srt1 xs) : gSorted false [DT xs] = some (DT (srtT xs), [DT xs]) := by
  unfold gSorted keep1
  simp only [datOf_DT, pys_T, lay_T, sortable_T h, Bool.and_self, if_true]
  rw [srtD_T, List.map_map]
  rfl
/-! the sorted list is one -/
theorem sorted_unique {α : Type} {le : α → α → Prop} (anti : ∀ a b, le a b → le b a → a = b) : ∀ {l m : List α}, l.Pairwise le → m.Pairwise le → l.Perm m → l = m
  | [], m, _, _, p => (List.nil_perm.mp p).symm
  | a :: l, [], _, _, p => nomatch List.perm_nil.mp p
  | a :: l, b :: m, h1, h2, p => by
    obtain ⟨p1, p2⟩ := List.pairwise_cons.mp h1
    obtain ⟨q1, q2⟩ := List.pairwise_cons.mp h2
    have e : a = b := by
      rcases List.mem_cons.mp (p.mem_iff.mp List.mem_cons_self) with e | e
      · exact e
      · rcases List.mem_cons.mp (p.mem_iff.mpr List.mem_cons_self) with e' | e'
        · exact e'.symm
        · exact anti a b (p1 b e') (q1 a e)
    subst e
    rw [sorted_unique anti p2 q2 (List.Perm.cons_inv p)]
theorem srtT_sorted (xs : List (List Int)) : (srtT xs).Pairwise fun a b => a ≤ b := by
  have := List.pairwise_mergeSort (le := leT) (fun a b c h1 h2 => decide_eq_true (List.le_trans (of_decide_eq_true h1) (of_decide_eq_true h2))) (fun a b => by
    rcases List.le_total a b with h | h
    · simp [leT, h]
    · simp [leT, h]) xs
  exact this.imp fun h => of_decide_eq_true h
theorem srtT_perm (xs : List (List Int)) : (srtT xs).Perm xs := List.mergeSort_perm _ _
theorem srtT_eq {xs ys : List (List Int)} (h : xs.Perm ys) : srtT xs = srtT ys := sorted_unique (le := fun a b => a ≤ b) (fun a b h1 h2 => List.le_antisymm h1 h2) (srtT_sorted xs) (srtT_sorted ys) ((srtT_perm xs).trans (h.trans (srtT_perm ys).symm))
theorem srtT_idem (xs : List (List Int)) : srtT (srtT xs) = srtT xs := srtT_eq (srtT_perm xs)
theorem srtI_perm (rev : Bool) (L : List Int) : (srtI rev L).Perm L := List.mergeSort_perm _ _
theorem srtI_up (L : List Int) : (srtI false L).Pairwise (· ≤ ·) := by
  have := List.pairwise_mergeSort (le := leI false) (fun a b c h1 h2 => decide_eq_true (Int.le_trans (of_decide_eq_true h1) (of_decide_eq_true h2))) (fun a b => by
    rcases Int.le_total a b with h | h <;> simp [leI, h]) L
  exact this.imp fun h => of_decide_eq_true h
theorem srtI_down (L : List Int) : (srtI true L).Pairwise (fun a b => b ≤ a) := by
  have := List.pairwise_mergeSort (le := leI true) (fun a b c h1 h2 => decide_eq_true (Int.le_trans (of_decide_eq_true h2) (of_decide_eq_true h1))) (fun a b => by
    rcases Int.le_total a b with h | h <;> simp [leI, h]) L
  exact this.imp fun h => of_decide_eq_true h
theorem Srt1.perm {xs ys : List (List Int)} (h : Srt1 xs) (p : xs.Perm ys) : Srt1 ys := by
  rcases h with h | h
  · exact .inl fun x hx => h x (p.mem_iff.mpr hx)
  · exact .inr (by rw [← p.length_eq]; exact h)
end Fw
set_option Elab.async false
set_option linter.all false
set_option maxRecDepth 100000
set_option maxHeartbeats 1000000
/-! list(range(n)), tuple(range(n)), xs.reverse(), a op b op c. -/
namespace Fw
open PySem PySem.Spec PyProof.Rows L2
section
variable {C : Str → Addr} {X : Cx} {W : WX} {a b d : Expr} {f g h : Ex} {fA : Env → Res (List Arg × Env)}
def rgI (n : Int) : List Int := (List.range n.toNat).map fun k : Nat => (k : Int)
def small24 (n : Int) : Bool := decide (-1000000 ≤ n ∧ n ≤ 16777216)
/-- a body that is never reached -/
theorem vb_bad {P : List Bool} {body : List Stmt} : VB C X W P body fun _ => .bad := ⟨fun Z _ => ⟨fun pins s σ H D I ⟨R, env, c, o⟩ => o.elim⟩⟩
/-- list(range(n)) -/
def gLRg : Bf := keep1 fun s => match s with
  | .fz (.int n) => if small24 n then some (.lst ((rgI n).map fun i => .fz (.int i))) else none
  | _ => none
def gTRg : Bf := keep1 fun s => match s with
  | .fz (.int n) => if small24 n then some (.fz (.tup ((rgI n).map .int))) else none
  | _ => none
theorem rgV_eq (n : Int) : rgV 0 n = (rgI n).map V.int := by
  unfold rgV rgI
  rw [Int.sub_zero, List.map_map]
  apply List.map_congr_left
  intro k _
  show V.int (0 + (k : Int)) = V.int (k : Int)
  rw [Int.zero_add]
theorem rgOk_of {n : Int} (h : small24 n = true) : RgOk 0 n := by
  obtain ⟨h1, h2⟩ := (of_decide_eq_true h : -1000000 ≤ n ∧ n ≤ 16777216)
  exact ⟨by decide, by decide, Int.le_trans (by decide) h1, Int.lt_of_le_of_lt h2 (by decide), by rw [Int.sub_zero]; exact Int.toNat_le.mpr h2⟩
theorem srv_lrg {G : Gd} : Srv G (r1l fun v H Q => ∃ n, v = .int n ∧ RgOk 0 n ∧ ∀ q, H q = none → Q (.ref q) (upd H q (.lst (rgV 0 n)))) gLRg := srv1 fun Z R H s x ts vs env σ w Q c hg q => by
  split at hg
  · rename_i n
    split at hg
    · rename_i hn
      cases hg
      have e := c.top
      cases e
      refine ⟨n, rfl, rgOk_of hn, fun p hp => ?_⟩
      have c2 := Cfg.newFz c (ints_rp (rgI n)) hp
      rw [List.map_map] at c2
      rw [rgV_eq]
      exact q _ _ _ c2
    · cases hg
  · cases hg
theorem srv_trg {G : Gd} : Srv G (r1l fun v H Q => ∃ n, v = .int n ∧ RgOk 0 n ∧ ∀ q, H q = none → Q (.ref q) (upd H q (.tup (rgV 0 n)))) gTRg := srv1 fun Z R H s x ts vs env σ w Q c hg q => by
  split at hg
  · rename_i n
    split at hg
    · rename_i hn
      cases hg
      have e := c.top
      cases e
      refine ⟨n, rfl, rgOk_of hn, fun p hp => ?_⟩
      obtain ⟨c2, e2⟩ := c.grow (.tup (rgV 0 n)) hp
      refine q _ _ _ (c2.push ⟨p, rgV 0 n, rfl, .inl (.inl upd_same), ?_⟩)
      rw [rgV_eq]
      exact ints_rp (rgI n)
    · cases hg
  · cases hg
theorem ve_lrg {p p2 pos pos2 : Pos} (hc : X.calm = true) (hm : X.mg "list" = none) (hm2 : X.mg "range" = none) (he : VE C X W a f) (hg : Gl X "list" := by rfl) (hg2 : Gl X "range" := by rfl)
    (na : starEach [.Call (.Name "range" p2) [a] [] pos2] X.env = (false, eval (.Call (.Name "range" p2) [a] [] pos2) X.env) :: starEach [] X.env := by rfl) (nb : starEach [a] X.env = (false, eval a X.env) :: starEach [] X.env := by rfl) :
    VE C X W (.Call (.Name "list" p) [.Call (.Name "range" p2) [a] [] pos2] [] pos) (eUn gLRg f) :=
  ⟨fun Z => pe_imp (pe_listRg hc hg hm (prg_1 hg2 hm2 (he.run Z) nb) na) fun σ H Q h => h.bind fun _ _ _ _ _ v _ c o => by
    obtain ⟨ss, tw, t, c1⟩ := c.tmp
    exact fin_ok srv_lrg ⟨ss, tw, t, c1⟩ o⟩
theorem ve_trg {p p2 pos pos2 : Pos} (hc : X.calm = true) (hm : X.mg "tuple" = none) (hm2 : X.mg "range" = none) (he : VE C X W a f) (hg : Gl X "tuple" := by rfl) (hg2 : Gl X "range" := by rfl)
    (na : starEach [.Call (.Name "range" p2) [a] [] pos2] X.env = (false, eval (.Call (.Name "range" p2) [a] [] pos2) X.env) :: starEach [] X.env := by rfl) (nb : starEach [a] X.env = (false, eval a X.env) :: starEach [] X.env := by rfl) :
    VE C X W (.Call (.Name "tuple" p) [.Call (.Name "range" p2) [a] [] pos2] [] pos) (eUn gTRg f) :=
  ⟨fun Z => pe_imp (pe_tupRg hc hg hm (prg_1 hg2 hm2 (he.run Z) nb) na) fun σ H Q h => h.bind fun _ _ _ _ _ v _ c o => by
    obtain ⟨ss, tw, t, c1⟩ := c.tmp
    exact fin_ok srv_trg ⟨ss, tw, t, c1⟩ o⟩
/-- xs.reverse() -/
def gRvs : Bf := fun ss => match ss with
  | [.lst l] => some (.fz .non, [.lst l.reverse])
  | _ => none
theorem RpSs.rev {G : Gd} {R H : Hp} : ∀ {ss : List Sv} {ws : List V} {g : Fp}, RpSs G R H ss ws g → ∃ g' : Fp, RpSs G R H ss.reverse ws.reverse g' ∧ ∀ b, g' b = g b
  | [], _, g, ⟨e, z⟩ => by subst e; exact ⟨g, ⟨rfl, z⟩, fun _ => rfl⟩
  | s :: ss, _, g, ⟨v, vr, g1, k, e, h, r, z⟩ => by
    subst e
    obtain ⟨k', r', z'⟩ := RpSs.rev r
    rw [List.reverse_cons, List.reverse_cons]
    have one : RpSs G R H [s] [v] g1 := ⟨v, [], g1, fun _ => 0, rfl, h, ⟨rfl, fun _ => rfl⟩, fun _ => rfl⟩
    refine ⟨_, RpSs.join one r', fun b => ?_⟩
    have := z b
    have := z' b
    show k' b + g1 b = g b
    omega
theorem srv_rvs {G : Gd} : Srv G (rml rReverse) gRvs := fun Z R H ss ws ts vs env σ s ss' Q hl c hg hl2 q => by
  unfold gRvs at hg
  split at hg
  · rename_i l
    cases hg
    match ws, hl with
    | [x], _ =>
      have c : Cfg G Z R H (.lst l :: ts) (x :: vs) env σ := c
      obtain ⟨f, a, avs, g, rfl, ha, hs, _⟩ := c.topS
      obtain ⟨avs', h1, h2, h3⟩ := Cfg.write (es := []) (evs := []) rfl c
      rw [ha] at h1
      cases h1
      refine ⟨a, avs, rfl, rfl, ha, q .non R _ (Cfg.push (d := .non) (h3 [] [] l.reverse avs.reverse fun H' g hr => ?_) rfl)⟩
      obtain ⟨g', r', z⟩ := RpSs.rev hr
      exact ⟨fun _ => 0, g', ⟨rfl, fun _ => rfl⟩, r', fun b => by have := z b; show 0 + g' b ≤ g b; omega⟩
  · cases hg
theorem m_rvs {o : Expr} {fo : Ex} {apos cpos : Pos} (ho : VE C X W o fo)
    (hat : attributeBase o "reverse" X.env (eval o X.env) = eval o X.env := by rfl) (hp : (apos.endLine == cpos.line) = true := by rfl) : VE C X W (.Call (.Attribute o "reverse" apos) [] [] cpos) (eMeth0 "list" gRvs fo) :=
  ve_meth0 PySem.F.plainAttrs_list PySem.F.slot_list_reverse PySem.F.type_list_reverse mt_reverse srv_rvs (by decide) ho hat hp
end
end Fw
set_option Elab.async false
set_option linter.all false
set_option maxRecDepth 100000
set_option maxHeartbeats 1000000
/-! Lists of owned items: a + b, where both are given away. -/
namespace Fw
open PySem PySem.Spec PyProof.Rows L2
section
variable {G : Gd} {Z : Zn} {R H : Hp} {ts : List Sv} {vs : List V} {env : Env} {σ : L2.St}
theorem Cfg.cat {a b : List Sv} {x y : V} (c : Cfg G Z R H (.lst a :: .lst b :: ts) (x :: y :: vs) env σ) : ∃ l l2 ws us, x = .ref l ∧ y = .ref l2 ∧ H l = some (.lst ws) ∧ H l2 = some (.lst us) ∧ a.length = ws.length ∧ b.length = us.length ∧ Cfg G Z R H ((a ++ b) ++ ts) ((ws ++ us) ++ vs) env σ := by
  obtain ⟨f1, l, ws, g1, rfl, hl, ra, _⟩ := c.topS
  obtain ⟨f2, l2, us, g2, rfl, hl2, rb, _⟩ := (Cfg.pop c).topS
  refine ⟨l, l2, ws, us, rfl, rfl, hl, hl2, ra.len, rb.len, c.reord fun g h => ?_⟩
  obtain ⟨v, vr, g3, k, e, ⟨l', ws', g4, e1, h1, r1, z1⟩, h2, z⟩ := h
  cases e
  cases e1
  rw [hl] at h1
  cases h1
  obtain ⟨v2, vr2, g5, k2, e, ⟨l3, us', g6, e2, h3, r2, z2⟩, h4, z3⟩ := h2
  cases e
  cases e2
  rw [hl2] at h3
  cases h3
  refine ⟨_, RpSs.join h4 (RpSs.join r2 r1), fun b => ?_⟩
  have q1 := z b
  have q2 := z1 b
  have q3 := z2 b
  have q4 := z3 b
  show g4 b + g6 b + k2 b ≤ g b
  omega
end
/-- a + b of lists that are given away -/
def eAddM (fa fb : Ex) : Ex := fun env => (fa env).bind fun p => (fb p.2).bind fun q => match p.1, q.1 with
  | .v (.lst a), .v (.lst b) => if a.length + b.length ≤ 16777216 then .ok (.v (.lst (a ++ b)), q.2) else .bad
  | _, _ => .bad
section
variable {C : Str → Addr} {X : Cx} {W : WX} {a b : Expr} {fa fb : Ex} {pos : Pos}
theorem ve_addM (ha : VE C X W a fa) (hb : VE C X W b fb) : VE C X W (.BinOp a .Add b pos) (eAddM fa fb) :=
  ⟨fun Z => pe_imp (pe_op op_catL (ha.run Z) (hb.run Z)) fun σ H Q h => er_two (k := fun x y e => match x, y with
    | .v (.lst a), .v (.lst b) => if a.length + b.length ≤ 16777216 then .ok (.v (.lst (a ++ b)), e) else .bad
    | _, _ => .bad) h fun R1 H1 ts vs x y v u e c o => by
      split at o
      · rename_i a b
        split at o
        · rename_i hz
          obtain ⟨ss, tw, t, c⟩ := c
          cases t with
          | v t =>
            cases t with
            | v t =>
              cases t
              have c : Cfg (gd X C) Z R1 H1 (.lst a :: .lst b :: ts) (v :: u :: vs) e σ := c
              obtain ⟨l, l2, ws, us, rfl, rfl, h1, h2, e1, e2, c2⟩ := c.cat
              refine ⟨l, l2, ws, us, rfl, rfl, .inl (.inl h1), .inl (.inl h2), by rw [← e1, ← e2]; exact Nat.le_trans hz line24, fun p hp => ?_⟩
              exact o _ _ _ (Cfg.newLst (by rw [List.length_append, List.length_append, e1, e2]) c2 hp)
        · exact o.elim
      · exact o.elim⟩
end
end Fw
set_option Elab.async false
set_option linter.all false
set_option maxRecDepth 100000
set_option maxHeartbeats 1000000
/-! a op b op' c. -/
namespace Fw
open PySem PySem.Spec PyProof.Rows L2
abbrev cLt : Sv → Sv → Option Sv := i2 pT fun i j => .bl (decide (i < j))
abbrev cLe : Sv → Sv → Option Sv := i2 pT fun i j => .bl (decide (i ≤ j))
abbrev cGt : Sv → Sv → Option Sv := i2 pT fun i j => .bl (decide (j < i))
abbrev cGe : Sv → Sv → Option Sv := i2 pT fun i j => .bl (decide (j ≤ i))
def kChn (g0 g0' : Sv → Sv → Option Sv) (fc : Ex) : Arg → Arg → Env → Res (Arg × Env) := fun x y e => match x, y with
  | .v s, .v (.fz d) => match g0 s (.fz d) with
    | some (.fz (.bl b)) => if b then (fc e).bind fun r => finA (keep2 g0') [.v (.fz d), r.1] r.2 else .ok (.v (.fz (.bl false)), e)
    | _ => .bad
  | _, _ => .bad
def eChain (g0 g0' : Sv → Sv → Option Sv) (fa fb fc : Ex) : Ex := fun env => (fa env).bind fun p => (fb p.2).bind fun q => kChn g0 g0' fc p.1 q.1 q.2
section
variable {C : Str → Addr} {X : Cx} {W : WX} {a b c : Expr} {fa fb fc : Ex} {pos : Pos}
theorem chain_read {Z : Zn} {r r' : R2} {g0 g0' : Sv → Sv → Option Sv} {ta tb tc : TE} (hg : Srv (gd X C) (r2l r) (keep2 g0)) (hg' : Srv (gd X C) (r2l r') (keep2 g0')) {σ : L2.St} {H : Hp} {Q : VK} (h : ER (gd X C) Z W (eChain g0 g0' fa fb fc) σ H Q) :
    tChain r r' (ER (gd X C) Z W fa) (ER (gd X C) Z W fb) (ER (gd X C) Z W fc) σ H Q := by
  refine er_two (k := kChn g0 g0' fc) h fun R1 H1 ts vs x y v u e c o => ?_
  unfold kChn at o
  split at o
  · rename_i s d
    split at o
    · rename_i k hq
      obtain ⟨ss, tw, t, c⟩ := c
      cases t with
      | v t =>
        cases t with
        | v t =>
          cases t
          have c : Cfg (gd X C) Z R1 H1 (s :: .fz d :: ts) (v :: u :: vs) e σ := c
          refine hg Z R1 H1 [s, .fz d] [v, u] ts vs e σ (.fz (.bl k)) [s, .fz d] _ rfl c (by show (g0 s (.fz d)).map (fun r => (r, [s, Sv.fz d])) = _; rw [hq]; rfl) rfl fun v' R' H' c' => ?_
          have c' : Cfg (gd X C) Z R' H' (.fz (.bl k) :: s :: .fz d :: ts) (v' :: v :: u :: vs) e σ := c'
          refine ⟨k, c'.top, ?_⟩
          cases k with
          | false => exact o _ _ _ (Cfg.push (d := .bl false) c'.pop.pop.pop rfl)
          | true =>
            refine ⟨R', .fz d :: ts, u :: vs, e, c'.pop.pop, ?_⟩
            have o : Out (gd X C) Z W ts vs σ Q ((fc e).bind fun r => finA (keep2 g0') [.v (.fz d), r.1] r.2) := o
            revert o
            generalize fc e = rr
            intro o
            match rr, o with
            | .exc x e2, o => exact o
            | .ok (z, e2), o =>
              intro w R2 H2 c2
              exact (fin_ok (ws := [u, w]) hg' (ArgC.two (a := .v (.fz d)) (v := u) (ss := [.fz d]) (tw := [u]) (.v .nil) c2) o : r2l r' [u, w] H2 Q)
    · exact o.elim
  · exact o.elim
theorem ve_chain {op op' : CmpOp} {r r' : R2} {g0 g0' : Sv → Sv → Option Sv} (ho : OpR X (compareOp op) r) (ho' : OpR X (compareOp op') r') (hg : Srv (gd X C) (r2l r) (keep2 g0)) (hg' : Srv (gd X C) (r2l r') (keep2 g0')) (ha : VE C X W a fa) (hb : VE C X W b fb) (hc : VE C X W c fc)
    (hm : lastMarks [op, op'] [b, c] = false := by with_unfolding_all rfl) : VE C X W (.Compare a [op, op'] [b, c] pos) (eChain g0 g0' fa fb fc) :=
  ⟨fun Z => pe_imp (pe_chain ho ho' (ha.run Z) (hb.run Z) (hc.run Z) hm) fun σ H Q h => chain_read (ta := ER (gd X C) Z W fa) (tb := ER (gd X C) Z W fb) (tc := ER (gd X C) Z W fc) hg hg' h⟩
theorem vt_chain {op op' : CmpOp} {r r' : R2} {g0 g0' : Sv → Sv → Option Sv} (ho : OpR X (compareOp op) r) (ho' : OpR X (compareOp op') r') (hg : Srv (gd X C) (r2l r) (keep2 g0)) (hg' : Srv (gd X C) (r2l r') (keep2 g0')) (ha : VE C X W a fa) (hb : VE C X W b fb) (hc : VE C X W c fc)
    (hm : lastMarks [op, op'] [b, c] = false := by with_unfolding_all rfl) : VT C X W (.Compare a [op, op'] [b, c] pos) (tBl (eChain g0 g0' fa fb fc)) :=
  ⟨fun Z => pt_imp (pt_chain ho ho' (ha.run Z) (hb.run Z) (hc.run Z) hm) fun σ H Q h => chain_read (ta := ER (gd X C) Z W fa) (tb := ER (gd X C) Z W fb) (tc := ER (gd X C) Z W fc) hg hg' (tBl_er h)⟩
end
end Fw
set_option Elab.async false
set_option linter.all false
set_option maxRecDepth 100000
set_option maxHeartbeats 1000000
/-! a[lo:hi]. -/
namespace Fw
open PySem PySem.Spec PyProof.Rows L2
abbrev Px := Env → Res (Option Int × Env)
def pNo : Px := fun env => .ok (none, env)
def pAt (f : Ex) : Px := fun env => (f env).bind fun q => match q.1 with
  | .v (.fz (.int i)) => .ok (some i, q.2)
  | _ => .bad
def cutL {α : Type} (xs : List α) (lo hi : Option Int) : List α := (xs.drop (HT.sIx xs.length 0 lo)).take (HT.sIx xs.length xs.length hi - HT.sIx xs.length 0 lo)
def slS (s : Sv) (lo hi : Option Int) : Option Sv := match s with
  | .fz (.tup ds) => some (.fz (.tup (cutL ds lo hi)))
  | .fz (.str x) => if x.length ≤ sizeLine then some (.fz (.str (cutS x lo hi))) else none
  | s => (elemsL s).map fun ds => .lst ((cutL ds lo hi).map .fz)
def eSl (fe : Ex) (pl ph : Px) : Ex := fun env => (fe env).bind fun p => (pl p.2).bind fun l => (ph l.2).bind fun u => finA (keep1 fun s => slS s l.1 u.1) [p.1] u.2
section
variable {G : Gd} {Z : Zn} {W : WX}
def OutP (G : Gd) (Z : Zn) (W : WX) (ts : List Sv) (vs : List V) (σ : L2.St) (Q : Option Int → Hp → Prop) : Res (Option Int × Env) → Prop
  | .ok (o, e) => ∀ R' H', Cfg G Z R' H' ts vs e σ → Q o H'
  | .exc x e => ExW G Z W x e σ
  | .bad => False
def PR (G : Gd) (Z : Zn) (W : WX) (f : Px) : TO := fun σ H Q => ∃ R ts vs env, Cfg G Z R H ts vs env σ ∧ OutP G Z W ts vs σ Q (f env)
end
section
variable {C : Str → Addr} {X : Cx} {W : WX} {e : Expr} {f : Ex} {lo hi : Option Expr} {pl ph : Px} {pos p2 : Pos}
structure VP (C : Str → Addr) (X : Cx) (W : WX) (o : Option Expr) (f : Px) : Prop where
  run : ∀ Z, PO X o (PR (gd X C) Z W f)
theorem po_imp {o : Option Expr} {t t' : TO} (h : PO X o t) (i : ∀ σ H Q, t' σ H Q → t σ H Q) : PO X o t' := ⟨fun pins s σ H Q I q => h.run pins s σ H Q I (i σ H Q q)⟩
theorem vp_no : VP C X W none pNo := ⟨fun Z => po_imp po_none fun σ H Q ⟨R, ts, vs, env, c, o⟩ => o R H c⟩
theorem vp_at (h : VE C X W e f) : VP C X W (some e) (pAt f) := by
  refine ⟨fun Z => po_imp (po_some (h.run Z)) fun σ H Q ⟨R, ts, vs, env, c, o⟩ => ⟨R, ts, vs, env, c, ?_⟩⟩
  unfold pAt at o
  revert o
  generalize f env = r
  intro o
  match r, o with
  | .exc x e, o => exact o
  | .ok (a, e), o =>
    intro v R' H' c'
    simp only [Res.bind] at o
    split at o
    · rename_i i
      have c' : Cfg (gd X C) Z R' H' (.fz (.int i) :: ts) (v :: vs) e σ := c'
      exact ⟨i, c'.top, o R' H' c'.pop⟩
    · exact o.elim
theorem RpDs.drop {G : Gd} {R : Hp} : ∀ {n : Nat} {ds : List Dt} {ws : List V}, RpDs G R ds ws → RpDs G R (ds.drop n) (ws.drop n)
  | 0, _, _, h => h
  | n + 1, [], _, h => by cases h; exact rfl
  | n + 1, d :: ds, _, ⟨v, vr, e, _, r⟩ => by subst e; exact RpDs.drop (n := n) r
theorem RpDs.take {G : Gd} {R : Hp} : ∀ {n : Nat} {ds : List Dt} {ws : List V}, RpDs G R ds ws → RpDs G R (ds.take n) (ws.take n)
  | 0, _, _, _ => rfl
  | n + 1, [], _, h => by cases h; exact rfl
  | n + 1, d :: ds, _, ⟨v, vr, e, h, r⟩ => by subst e; exact ⟨v, vr.take n, rfl, h, RpDs.take (n := n) r⟩
theorem RpDs.cut {G : Gd} {R : Hp} {ds : List Dt} {ws : List V} (h : RpDs G R ds ws) (lo hi : Option Int) : RpDs G R (cutL ds lo hi) (cutV ws lo hi) := by
  unfold cutL cutV
  rw [h.len]
  exact h.drop.take
def rSlX (K : PySem.W.Frag) : V → Option Int → Option Int → Hp → VK → Prop := fun x lo hi H Q => rSlL K x lo hi H Q ∨ (rSlA K x lo hi H Q ∨ rSlS x lo hi H Q)
theorem srv_sl {G : Gd} (lo hi : Option Int) : Srv G (r1l fun x H Q => rSlX G.K x lo hi H Q) (keep1 fun s => slS s lo hi) := srv1 fun Z R H s x ts vs env σ w Q c hg q => by
  unfold slS at hg
  split at hg
  · rename_i ds
    cases hg
    obtain ⟨a, ws, rfl, ha, hr⟩ := c.top
    refine .inr (.inl ⟨a, ws, rfl, sqT_mono c.wf ha, fun hw => ?_, fun _ p hp => ?_⟩)
    · have e : cutL ds lo hi = ds := by
        unfold cutL
        rw [hr.len, hw.1, hw.2, List.drop_zero, Nat.sub_zero, ← hr.len, List.take_length]
      rw [e] at q
      exact q _ _ _ (c.push ⟨a, ws, rfl, ha, hr⟩)
    · obtain ⟨c2, e2⟩ := c.grow (.tup (cutV ws lo hi)) hp
      exact q _ _ _ (c2.push ⟨p, _, rfl, .inl (.inl upd_same), (hr.cut lo hi).mono e2⟩)
  · rename_i z
    split at hg
    · rename_i hz
      cases hg
      have e := c.top
      cases e
      exact .inr (.inr ⟨z, rfl, hz, q _ _ _ (c.push rfl)⟩)
    · cases hg
  · obtain ⟨ds, e, rfl⟩ := keep1_some hg
    obtain ⟨a, ws, rfl, hr, hs, _⟩ := elemsL_kp c e
    exact .inl ⟨a, ws, rfl, hs, fun p hp => q _ _ _ (c.newFz (hr.cut lo hi) hp)⟩
theorem ve_slice (he : VE C X W e f) (hl : VP C X W lo pl) (hh : VP C X W hi ph) : VE C X W (.Subscript e (.Slice lo hi none p2) pos) (eSl f pl ph) := by
  refine ⟨fun Z => pe_imp (pe_slice (r := rSlX X.K) (sl_list.or (sl_tupA.or sl_str)) (he.run Z) (hl.run Z) (hh.run Z)) fun σ H Q ⟨R, ts, vs, env, c, o⟩ => ⟨R, ts, vs, env, c, ?_⟩⟩
  unfold eSl at o
  revert o
  generalize f env = r
  intro o
  match r, o with
  | .exc x e, o => exact o
  | .ok (a, e1), o =>
    intro v R1 H1 c1
    have o : Out (gd X C) Z W ts vs σ Q ((pl e1).bind fun l => (ph l.2).bind fun u => finA (keep1 fun s => slS s l.1 u.1) [a] u.2) := o
    obtain ⟨ss, tw, t, c1⟩ := ArgC.tmp c1
    refine ⟨R1, ss ++ ts, tw ++ vs, e1, c1, ?_⟩
    revert o
    generalize pl e1 = r1
    intro o
    match r1, o with
    | .exc x e, o => exact o
    | .ok (l, e2), o =>
      intro R2 H2 c2
      have o : Out (gd X C) Z W ts vs σ Q ((ph e2).bind fun u => finA (keep1 fun s => slS s l u.1) [a] u.2) := o
      refine ⟨R2, ss ++ ts, tw ++ vs, e2, c2, ?_⟩
      revert o
      generalize ph e2 = r2
      intro o
      match r2, o with
      | .exc x e, o => exact o
      | .ok (u, e3), o =>
        intro R3 H3 c3
        exact (fin_ok (ws := [v]) (srv_sl l u) ⟨ss, tw, t, c3⟩ o : r1l (fun x H Q => rSlX X.K x l u H Q) [v] H3 Q)
end
end Fw
set_option Elab.async false
set_option linter.all false
set_option maxRecDepth 100000
set_option maxHeartbeats 1000000
/-! max, min of a tuple of ints. -/
namespace Fw
open PySem PySem.Spec PyProof.Rows L2
section
variable {X : Cx}
def rMaxT (K : PySem.W.Frag) : List V → Hp → VK → Prop := fun vs H Q => ∃ (a : Addr) (ns : List Int), vs = [V.ref a] ∧ SqT K H a (ns.map V.int) ∧ 0 < ns.length ∧ ∀ m, m ∈ ns → (∀ y, y ∈ ns → y ≤ m) → Q (.int m) H
def rMinT (K : PySem.W.Frag) : List V → Hp → VK → Prop := fun vs H Q => ∃ (a : Addr) (ns : List Int), vs = [V.ref a] ∧ SqT K H a (ns.map V.int) ∧ 0 < ns.length ∧ ∀ m, m ∈ ns → (∀ y, y ∈ ns → m ≤ y) → Q (.int m) H
theorem dpAll_ints {K : PySem.W.Frag} {H : Hp} : ∀ ns : List Int, DpAll K H (ns.map V.int) (ns.map PyData.int)
  | [] => .nil
  | n :: ns => .cons (.int n) (dpAll_ints ns)
theorem alike_intsX (ns : List Int) : PySem.W.AlikeAll (ns.map PyData.int) := ⟨fun x hx y hy => by
  obtain ⟨i, _, rfl⟩ := List.mem_map.mp hx
  obtain ⟨j, _, rfl⟩ := List.mem_map.mp hy
  rfl, fun x hx => by
  obtain ⟨i, _, rfl⟩ := List.mem_map.mp hx
  exact fun z => nomatch z⟩
theorem depthAll_intsX : ∀ ns : List Int, PyData.depthAll (ns.map .int) ≤ 1
  | [] => Nat.zero_le _
  | n :: ns => by rw [List.map_cons, PyData.depthAll]; exact Nat.max_le.mpr ⟨by rw [PyData.depth]; decide, depthAll_intsX ns⟩
theorem foldMax_ok : ∀ (ns : List Int) (n : Int), ns.foldl max n ∈ n :: ns ∧ ∀ y ∈ n :: ns, y ≤ ns.foldl max n
  | [], n => ⟨List.mem_cons_self, fun y hy => by rw [List.mem_singleton.mp hy]; exact Int.le_refl _⟩
  | a :: ns, n => by
    obtain ⟨h1, h2⟩ := foldMax_ok ns (max n a)
    rw [List.foldl_cons]
    refine ⟨?_, fun y hy => ?_⟩
    · rcases List.mem_cons.mp h1 with h | h
      · rw [h]
        rcases Int.le_total n a with q | q
        · rw [Int.max_eq_right q]; simp
        · rw [Int.max_eq_left q]; simp
      · simp [h]
    · have h3 := h2 (max n a) List.mem_cons_self
      rcases List.mem_cons.mp hy with rfl | hy
      · exact Int.le_trans (Int.le_max_left _ _) h3
      · rcases List.mem_cons.mp hy with rfl | hy
        · exact Int.le_trans (Int.le_max_right _ _) h3
        · exact h2 y (List.mem_cons_of_mem _ hy)
theorem foldMin_ok : ∀ (ns : List Int) (n : Int), ns.foldl min n ∈ n :: ns ∧ ∀ y ∈ n :: ns, ns.foldl min n ≤ y
  | [], n => ⟨List.mem_cons_self, fun y hy => by rw [List.mem_singleton.mp hy]; exact Int.le_refl _⟩
  | a :: ns, n => by
    obtain ⟨h1, h2⟩ := foldMin_ok ns (min n a)
    rw [List.foldl_cons]
    refine ⟨?_, fun y hy => ?_⟩
    · rcases List.mem_cons.mp h1 with h | h
      · rw [h]
        rcases Int.le_total n a with q | q
        · rw [Int.min_eq_left q]; simp
        · rw [Int.min_eq_right q]; simp
      · simp [h]
    · have h3 := h2 (min n a) List.mem_cons_self
      rcases List.mem_cons.mp hy with rfl | hy
      · exact Int.le_trans h3 (Int.min_le_left _ _)
      · rcases List.mem_cons.mp hy with rfl | hy
        · exact Int.le_trans h3 (Int.min_le_right _ _)
        · exact h2 y (List.mem_cons_of_mem _ hy)
theorem reads_int {h : Heap} {v : Value} {m : Int} {bs : List Addr} (r : Reads h v (.int m) bs) : ∃ t, v = .int m t := by
  cases r
  exact ⟨_, rfl⟩
theorem cr_maxT (hc : X.calm = true) (hu : X.A.units + 65 < cLine) : CallR X (.builtin "max") (rMaxT X.K) := by
  intro pins s σ H vs us Q I r h
  obtain ⟨a, ns, rfl, hs, hne, q⟩ := h
  obtain ⟨its, rv, hl, _⟩ := I.tuple hs
  rw [Vals.ref1 r]
  cases ns with
  | nil => exact absurd hne (by decide)
  | cons n ns =>
    obtain ⟨as, hr⟩ := Dp.readsAll I ((n :: ns).map PyData.int) _ its (dpAll_ints _) rv
    have hd := depthAll_intsX (n :: ns)
    refine PySem.W.max_tuple_data (vs := its.toArray) (I.ok.hd hc) hl hr (alike_intsX (n :: ns)) (by
      have e : PyData.depthAll (PyData.int n :: List.map PyData.int ns) = PyData.depthAll ((n :: ns).map .int) := rfl
      rw [e]; omega) fun i v h' tk bs hv rd hk => ?_
    rw [PySem.W.maxD_ints] at rd
    obtain ⟨t, rfl⟩ := reads_int rd
    obtain ⟨h1, h2⟩ := foldMax_ok ns n
    exact ⟨.int _, H, I.kept hk, ⟨_, rfl⟩, q _ h1 h2⟩
theorem cr_minT (hc : X.calm = true) (hu : X.A.units + 65 < cLine) : CallR X (.builtin "min") (rMinT X.K) := by
  intro pins s σ H vs us Q I r h
  obtain ⟨a, ns, rfl, hs, hne, q⟩ := h
  obtain ⟨its, rv, hl, _⟩ := I.tuple hs
  rw [Vals.ref1 r]
  cases ns with
  | nil => exact absurd hne (by decide)
  | cons n ns =>
    obtain ⟨as, hr⟩ := Dp.readsAll I ((n :: ns).map PyData.int) _ its (dpAll_ints _) rv
    have hd := depthAll_intsX (n :: ns)
    refine PySem.W.min_tuple_data (vs := its.toArray) (I.ok.hd hc) hl hr (alike_intsX (n :: ns)) (by
      have e : PyData.depthAll (PyData.int n :: List.map PyData.int ns) = PyData.depthAll ((n :: ns).map .int) := rfl
      rw [e]; omega) fun i v h' tk bs hv rd hk => ?_
    rw [PySem.W.minD_ints] at rd
    obtain ⟨t, rfl⟩ := reads_int rd
    obtain ⟨h1, h2⟩ := foldMin_ok ns n
    exact ⟨.int _, H, I.kept hk, ⟨_, rfl⟩, q _ h1 h2⟩
def rOr (r r' : List V → Hp → VK → Prop) : List V → Hp → VK → Prop := fun xs H Q => r xs H Q ∨ r' xs H Q
theorem cr_or {id : String} {r r' : List V → Hp → VK → Prop} (h : CallR X (.builtin id) r) (h' : CallR X (.builtin id) r') : CallR X (.builtin id) (rOr r r') := by
  intro pins s σ H vs us Q I rl q
  rcases q with q | q
  · exact h pins s σ H vs us Q I rl q
  · exact h' pins s σ H vs us Q I rl q
end
section
variable {G : Gd}
/-- ints of a list or a tuple -/
def intsX (s : Sv) : Option (List Int) := (elemsLT s).bind intsOf
@[simp] def gMaxX : Bf := keep1 fun s => (intsX s).bind fun ns => if ns.isEmpty then none else some (.fz (.int (maxI ns)))
@[simp] def gMinX : Bf := keep1 fun s => (intsX s).bind fun ns => if ns.isEmpty then none else some (.fz (.int (minI ns)))
theorem intsX_ok {Z : Zn} {R H : Hp} {s : Sv} {x : V} {ts : List Sv} {vs : List V} {env : Env} {σ : L2.St} {ns : List Int} (c : Cfg G Z R H (s :: ts) (x :: vs) env σ) (h : intsX s = some ns) : ∃ a, x = .ref a ∧ (SqL G.K H a (ns.map V.int) ∨ SqT G.K H a (ns.map V.int)) := by
  unfold intsX at h
  cases q : elemsLT s with
  | none => rw [q] at h; cases h
  | some ds =>
    rw [q] at h
    obtain ⟨a, ws, rfl, hr, hs⟩ := elemsLT_ok c q
    rw [intsOf_rp h hr] at hs
    exact ⟨a, rfl, hs⟩
theorem srv_maxX : Srv G (rOr (rMax G.K) (rMaxT G.K)) gMaxX := srv1 fun Z R H s x ts vs env σ w Q c hg q => by
  cases e : intsX s with
  | none => rw [e] at hg; cases hg
  | some ns =>
    rw [e] at hg
    have hg : (if ns.isEmpty = true then none else some (Sv.fz (.int (maxI ns)))) = some w := hg
    split at hg
    · cases hg
    · rename_i hne
      cases hg
      obtain ⟨a, rfl, hs⟩ := intsX_ok c e
      have hn : ns ≠ [] := fun z => hne (by rw [z]; rfl)
      obtain ⟨h1, h2⟩ := maxI_ok hn
      have k : ∀ m, m ∈ ns → (∀ y, y ∈ ns → y ≤ m) → Q (.int m) H := fun m hm1 hm2 => by
        have : m = maxI ns := Int.le_antisymm (h2 m hm1) (hm2 _ h1)
        subst this
        exact q _ _ _ (c.push rfl)
      rcases hs with hs | hs
      · exact .inl ⟨a, ns, rfl, hs, List.length_pos_iff.mpr hn, k⟩
      · exact .inr ⟨a, ns, rfl, hs, List.length_pos_iff.mpr hn, k⟩
theorem srv_minX : Srv G (rOr (rMin G.K) (rMinT G.K)) gMinX := srv1 fun Z R H s x ts vs env σ w Q c hg q => by
  cases e : intsX s with
  | none => rw [e] at hg; cases hg
  | some ns =>
    rw [e] at hg
    have hg : (if ns.isEmpty = true then none else some (Sv.fz (.int (minI ns)))) = some w := hg
    split at hg
    · cases hg
    · rename_i hne
      cases hg
      obtain ⟨a, rfl, hs⟩ := intsX_ok c e
      have hn : ns ≠ [] := fun z => hne (by rw [z]; rfl)
      obtain ⟨h1, h2⟩ := minI_ok hn
      have k : ∀ m, m ∈ ns → (∀ y, y ∈ ns → m ≤ y) → Q (.int m) H := fun m hm1 hm2 => by
        have : m = minI ns := Int.le_antisymm (hm2 _ h1) (h2 m hm1)
        subst this
        exact q _ _ _ (c.push rfl)
      rcases hs with hs | hs
      · exact .inl ⟨a, ns, rfl, hs, List.length_pos_iff.mpr hn, k⟩
      · exact .inr ⟨a, ns, rfl, hs, List.length_pos_iff.mpr hn, k⟩
end
section
variable {C : Str → Addr} {X : Cx} {W : WX} {a : Expr} {pos p : Pos} {fA : Env → Res (List Arg × Env)}
theorem c_maxX (hc : X.calm = true) (hu : X.A.units + 65 < cLine) (hm : X.mg "max" = none) (ha : VA C X W [a] fA) (hg : Gl X "max" := by rfl) (hs : starEach [a] X.env = (false, eval a X.env) :: starEach [] X.env := by rfl) (hpl : (backTo pos (starEach [] X.env)).any (·.1) = false := by rfl) : VE C X W (.Call (.Name "max" p) [a] [] pos) (eCall gMaxX fA) := ve_callB (r := _) (cr_or (cr_max hc) (cr_maxT hc hu)) srv_maxX hg hm (by decide +kernel) ha (by decide) (by decide) hs hpl
theorem c_minX (hc : X.calm = true) (hu : X.A.units + 65 < cLine) (hm : X.mg "min" = none) (ha : VA C X W [a] fA) (hg : Gl X "min" := by rfl) (hs : starEach [a] X.env = (false, eval a X.env) :: starEach [] X.env := by rfl) (hpl : (backTo pos (starEach [] X.env)).any (·.1) = false := by rfl) : VE C X W (.Call (.Name "min" p) [a] [] pos) (eCall gMinX fA) := ve_callB (r := _) (cr_or (cr_min hc) (cr_minT hc hu)) srv_minX hg hm (by decide +kernel) ha (by decide) (by decide) hs hpl
end
end Fw
set_option Elab.async false
set_option linter.all false
set_option maxRecDepth 100000
set_option maxHeartbeats 1000000
/-! is of truth values. -/
namespace Fw
open PySem PySem.Spec PyProof.Rows L2
def isB2 (f : Bool → Bool) : Sv → Sv → Option Sv
  | .fz (.bl a), .fz (.bl b) => some (.fz (.bl (f (decide (a = b)))))
  | _, _ => none
def gIsB : Bf := keep2 (isB2 id)
def gNotB : Bf := keep2 (isB2 (!·))
section
variable {G : Gd}
theorem isB2_some {f : Bool → Bool} {s u w : Sv} (h : isB2 f s u = some w) : ∃ a b, s = .fz (.bl a) ∧ u = .fz (.bl b) ∧ w = .fz (.bl (f (decide (a = b)))) := by
  unfold isB2 at h
  split at h
  · cases h; exact ⟨_, _, rfl, rfl, rfl⟩
  · cases h
theorem srv_isB : Srv G (r2l rIsB) gIsB := srv2 fun Z R H s u x y ts vs env σ w Q c hg q => by
  obtain ⟨a, b, rfl, rfl, rfl⟩ := isB2_some hg
  have h1 := c.top
  have h2 := c.top2
  cases h1
  cases h2
  exact ⟨a, b, rfl, rfl, q _ R H (c.push rfl)⟩
theorem srv_notB : Srv G (r2l rNotB) gNotB := srv2 fun Z R H s u x y ts vs env σ w Q c hg q => by
  obtain ⟨a, b, rfl, rfl, rfl⟩ := isB2_some hg
  have h1 := c.top
  have h2 := c.top2
  cases h1
  cases h2
  exact ⟨a, b, rfl, rfl, q _ R H (c.push rfl)⟩
end
section
variable {C : Str → Addr} {X : Cx} {W : WX} {a b : Expr} {fa fb : Ex} {pos : Pos}
theorem n_isb (ha : VE C X W a fa) (hb : VE C X W b fb) : VE C X W (.Compare a [.Is] [b] pos) (eBin gIsB fa fb) := ve_cmp op_isBl srv_isB ha hb (nomark _)
theorem t_isb (ha : VE C X W a fa) (hb : VE C X W b fb) : VT C X W (.Compare a [.Is] [b] pos) (tBl (eBin gIsB fa fb)) := vt_cmp op_isBl srv_isB ha hb (nomark _)
theorem n_isnotb (ha : VE C X W a fa) (hb : VE C X W b fb) : VE C X W (.Compare a [.IsNot] [b] pos) (eBin gNotB fa fb) := ve_cmp op_notBl srv_notB ha hb (nomark _)
theorem t_isnotb (ha : VE C X W a fa) (hb : VE C X W b fb) : VT C X W (.Compare a [.IsNot] [b] pos) (tBl (eBin gNotB fa fb)) := vt_cmp op_notBl srv_notB ha hb (nomark _)
end
end Fw
set_option Elab.async false
set_option linter.all false
set_option maxRecDepth 100000
set_option maxHeartbeats 1000000
/-! xs[i] = v, xs a list of one's own. -/
namespace Fw
open PySem PySem.Spec PyProof.Rows L2
section
variable {G : Gd}
theorem RpSs.setAt {R H : Hp} {s : Sv} {v : V} {gs : Fp} (hs : RpS G R H s v gs) : ∀ {ss : List Sv} {ws : List V} {g : Fp} (j : Nat), RpSs G R H ss ws g → ∃ g' : Fp, RpSs G R H (ss.set j s) (ws.set j v) g' ∧ ∀ b, g' b ≤ gs b + g b
  | [], _, g, j, ⟨e, z⟩ => by
    subst e
    exact ⟨g, ⟨rfl, z⟩, fun b => Nat.le_add_left _ _⟩
  | x :: ss, _, g, 0, ⟨v0, vr, g0, k, e, h, r, z⟩ => by
    subst e
    refine ⟨_, ⟨v, vr, gs, k, rfl, hs, r, fun _ => rfl⟩, fun b => ?_⟩
    have := z b
    show gs b + k b ≤ gs b + g b
    omega
  | x :: ss, _, g, j + 1, ⟨v0, vr, g0, k, e, h, r, z⟩ => by
    subst e
    obtain ⟨g', r', z'⟩ := RpSs.setAt hs j r
    refine ⟨_, ⟨v0, vr.set j v, g0, g', rfl, h, r', fun _ => rfl⟩, fun b => ?_⟩
    have := z b
    have := z' b
    show g0 b + g' b ≤ gs b + g b
    omega
end
/-- the store -/
def kStI (xi : Nat) (s : Sv) : Arg → Env → SRes := fun a e => match a with
  | .v (.fz (.int k)) => match e[xi]? with
    | some (some (.lst ss)) => match ixN ss.length k with
      | some j => .next (e.set xi (some (.lst (ss.set j s))))
      | none => .bad
    | _ => .bad
  | _ => .bad
def sStI (xi : Nat) (fi f : Ex) : Stx := fun env => ofE (f env) fun a e => match a with
  | .v s => match e[xi]? with
    | some (some _) => ofE (fi e) (kStI xi s)
    | _ => .bad
  | _ => .bad
section
variable {C : Str → Addr} {X : Cx} {W : WX} {P : List Bool}
theorem vs_stI {xi : Nat} {x : Str} {i e : Expr} {fi f : Ex} {px ps pos : Pos} (hn : VE C X W (.Name x px) (eRef xi)) (hi : VE C X W i fi) (he : VE C X W e f)
    (hs : swapsWithSole [.Subscript (.Name x px) i ps] e pos.line X.env = pure false := by rfl) (hw : swappedStores [.Subscript (.Name x px) i ps] e X.env = pure none := by rfl)
    (h1 : (assignEach [.Subscript (.Name x px) i ps] X.env).map (·.2) = [assign (.Subscript (.Name x px) i ps) X.env] := by rfl)
    (ha : ∀ v, assign (.Subscript (.Name x px) i ps) X.env v = (do
      let ov ← holding [v] (eval (.Name x px) X.env)
      let iv ← holding [v, ov] (eval i X.env)
      standAt ps
      holding [v, ov, iv] (setItem ov iv v)
      release [v, ov, iv] []) := by intro _; rfl) : VS C X W P (.Assign [.Subscript (.Name x px) i ps] e pos) (sStI xi fi f) := by
  refine ⟨fun Z pz => ps_imp (ps_asg (he.run Z) (pg_sub (hn.run Z) (hi.run Z) L2.set_list ha) hs hw h1) fun D σ H h => ofE_bind h fun R1 H1 a v e1 c o => ?_⟩
  cases a with
  | r i => exact o.elim
  | v s =>
    have c : Cfg (gd X C) Z R1 H1 [s] [v] e1 σ := c
    simp only at o
    split at o
    · rename_i s0 hs0
      refine ⟨R1, [s], [v], e1, c, ?_⟩
      have er : eRef xi e1 = .ok (.r xi, e1) := by unfold eRef; rw [hs0]
      rw [er]
      intro ov R2 H2 ca
      obtain ⟨hov, c2⟩ : σ[xi]? = some (some ov) ∧ Cfg (gd X C) Z R2 H2 [s] [v] e1 σ := ca
      refine ⟨R2, [s], [v], e1, c2, ?_⟩
      revert o
      generalize fi e1 = r
      intro o
      match r, o with
      | .exc y e2, o => exact o σ
      | .ok (b, e2), o =>
        intro iv R3 H3 cb
        have o2 : OutS (gd X C) Z W D (kStI xi s b e2) := o
        clear o
        revert o2
        unfold kStI
        intro o
        split at o
        · rename_i k
          have cb : Cfg (gd X C) Z R3 H3 (.fz (.int k) :: [s]) (iv :: [v]) e2 σ := cb
          have ei := cb.top
          cases ei
          have c3 := cb.pop
          split at o
          · rename_i ss hss
            split at o
            · rename_i j hj
              obtain ⟨ov', e5, c4⟩ := c3.take hss
              have eo : ov' = ov := by
                rw [hov] at e5
                exact (Option.some.inj (Option.some.inj e5)).symm
              subst eo
              obtain ⟨_, p, ws0, _, e6, _⟩ := c4.topS
              subst e6
              have c5 : Cfg (gd X C) Z R3 H3 ([s] ++ .lst ss :: []) ([v] ++ V.ref p :: []) (e2.set xi none) σ := c4.reord fun g hg => by
                obtain ⟨v1, vr1, g1, k1, q1, r1, r2, z1⟩ := hg
                cases q1
                obtain ⟨v2, vr2, g2, k2, q2, r3, r4, z2⟩ := r2
                cases q2
                refine ⟨_, ⟨_, _, g2, fun b => g1 b + k2 b, rfl, r3, ⟨_, _, g1, k2, rfl, r1, r4, fun _ => rfl⟩, fun _ => rfl⟩, fun b => ?_⟩
                have := z1 b
                have := z2 b
                show g2 b + (g1 b + k2 b) ≤ g b
                omega
              obtain ⟨ws, hp, hl, wr⟩ := Cfg.write (es := [s]) (evs := [v]) rfl c5
              refine ⟨p, ws, k, j, rfl, rfl, hp, by rw [hl]; exact hj, ?_⟩
              have c6 := wr [] [] (ss.set j s) (ws.set j v) fun H' g hg => by
                obtain ⟨v2, vr2, g2, k2, q2, r3, r4, z2⟩ := hg
                cases q2
                obtain ⟨g', r5, z5⟩ := RpSs.setAt r3 j r4
                refine ⟨fun _ => 0, g', ⟨rfl, fun _ => rfl⟩, r5, fun b => ?_⟩
                have h5 := z5 b
                have h2 := z2 b
                show 0 + g' b ≤ g b
                omega
              have c7 : Cfg (gd X C) Z R3 (upd H3 p (.lst (ws.set j v))) (.lst (ss.set j s) :: []) (V.ref p :: []) (e2.set xi none) σ := c6
              have c8 := c7.back e5
              rw [List.set_set] at c8
              exact o _ _ _ c8
            · exact o.elim
          · exact o.elim
        · exact o.elim
    · exact o.elim
end
end Fw
set_option Elab.async false
set_option linter.all false
set_option maxRecDepth 100000
set_option maxHeartbeats 1000000
/-! Typed forms: encoders, partial functions, and how a mirror runs as its typed form says. -/
namespace Fw
open PySem PySem.Spec PyProof.Rows L2
/-! ### encoders -/
abbrev eI : Int → Dt := fun i => .int i
abbrev eB : Bool → Dt := fun b => .bl b
abbrev eS : Str → Dt := fun x => .str x
abbrev eU : Unit → Dt := fun _ => .non
abbrev eD : Dt → Dt := fun d => d
section
variable {α β γ δ : Type}
abbrev eT (e : α → Dt) : List α → Dt := fun xs => .tup (xs.map e)
abbrev eL (e : α → Dt) : List α → Dt := fun xs => .lst (xs.map e)
abbrev e2 (a : α → Dt) (b : β → Dt) : α × β → Dt := fun p => .tup [a p.1, b p.2]
abbrev e3 (a : α → Dt) (b : β → Dt) (c : γ → Dt) : α × β × γ → Dt := fun p => .tup [a p.1, b p.2.1, c p.2.2]
abbrev e4 (a : α → Dt) (b : β → Dt) (c : γ → Dt) (d : δ → Dt) : α × β × γ × δ → Dt := fun p => .tup [a p.1, b p.2.1, c p.2.2.1, d p.2.2.2]
@[simp] def eO (e : α → Dt) : Option α → Dt
  | none => .non
  | some x => e x
abbrev sF (e : α → Dt) : α → Sv := fun x => .fz (e x)
abbrev sL (s : α → Sv) : List α → Sv := fun xs => .lst (xs.map s)
@[simp] def sO (s : α → Sv) : Option α → Sv
  | none => .fz .non
  | some x => s x
end
/-! ### partial functions -/
inductive Ct (σ ρ : Type) where
  | nx (s : σ)
  | bk (s : σ)
  | rt (r : ρ)
section
variable {α β σ ρ γ δ : Type}
def forO (f : α → σ → Option σ) : List α → σ → Option σ
  | [], s => some s
  | x :: xs, s => (f x s).bind fun s => forO f xs s
def forC (f : α → σ → Option (Ct σ ρ)) : List α → σ → Option (Ct σ ρ)
  | [], s => some (.nx s)
  | x :: xs, s => (f x s).bind fun c => match c with
    | .nx s => forC f xs s
    | .bk s => some (.nx s)
    | .rt r => some (.rt r)
def whlO (t : σ → Option Bool) (f : σ → Option σ) : Nat → σ → Option σ
  | 0, _ => none
  | n + 1, s => (t s).bind fun b => if b = true then (f s).bind fun s => whlO t f n s else some s
def whlC (t : σ → Option Bool) (f : σ → Option (Ct σ ρ)) : Nat → σ → Option (Ct σ ρ)
  | 0, _ => none
  | n + 1, s => (t s).bind fun b => if b = true then (f s).bind fun c => match c with
      | .nx s => whlC t f n s
      | .bk s => some (.nx s)
      | .rt r => some (.rt r)
    else some (.nx s)
/-- at most so many -/
def capO (xs : List α) : Option (List α) := if xs.length ≤ 16777216 then some xs else none
def cmpO (f : α → Option (Option β)) : List α → Option (List β)
  | [] => some []
  | x :: xs => (f x).bind fun c => (cmpO f xs).bind fun r => match c with
    | some v => some (v :: r)
    | none => some r
def cmpS (f : α → σ → Option (Option β × σ)) : List α → σ → Option (List β × σ)
  | [], s => some ([], s)
  | x :: xs, s => (f x s).bind fun c => (cmpS f xs c.2).bind fun r => match c.1 with
    | some v => some (v :: r.1, r.2)
    | none => some r
def rgL (lo : Int) (n : Nat) : List Int := (List.range n).map fun k : Nat => lo + (k : Int)
def enumL : List α → List (Int × α) := fun xs => xs.zipIdx.map fun p => ((p.2 : Int), p.1)
/-- s[i] -/
def ixL (xs : List α) (i : Int) : Option α := (ixN xs.length i).bind fun k => xs[k]?
/-- conditions -/
def okO (b : Bool) (x : α) : Option α := if b = true then some x else none
theorem okO_t {b : Bool} {x : α} (h : b = true) : okO b x = some x := if_pos h
theorem okO_some {b : Bool} {x y : α} (h : okO b x = some y) : b = true ∧ x = y := by
  unfold okO at h
  split at h
  · rename_i hb; cases h; exact ⟨hb, rfl⟩
  · cases h
theorem capO_some {xs r : List α} (h : capO xs = some r) : xs.length ≤ 16777216 ∧ r = xs := by
  unfold capO at h
  split at h
  · rename_i hb; cases h; exact ⟨hb, rfl⟩
  · cases h
theorem capO_ok {xs : List α} (h : xs.length ≤ 16777216) : capO xs = some xs := if_pos h
theorem bnd {o : Option α} {k : α → Option β} {z : β} (h : o.bind k = some z) : ∃ v, o = some v ∧ k v = some z := by
  cases o with
  | none => cases h
  | some v => exact ⟨v, rfl, h⟩
end
/-! ### a mirror's end, as the typed form says -/
section
variable {α β σ ρ γ : Type}
def Blk (Q : γ → SRes → Prop) (p : Option γ) (r : SRes) : Prop := ∀ c, p = some c → Q c r
variable {Q : γ → SRes → Prop} {r : SRes} {p p' : Option γ} {E E1 E2 E3 E4 : Env}
theorem Blk.use (h : Blk Q p r) {c : γ} (e : p = some c) : Q c r := h c e
theorem Blk.bind {o : Option α} {k : α → Option γ} (h : ∀ v, o = some v → Blk Q (k v) r) : Blk Q (o.bind k) r := fun c e => by
  obtain ⟨v, h1, h2⟩ := bnd e
  exact h v h1 c h2
theorem Blk.non : Blk Q Option.none r := fun c e => nomatch e
theorem Blk.fin {c : γ} (h : Q c r) : Blk Q (some c) r := fun c' e => by cases e; exact h
theorem Blk.okO {b : Bool} {x : α} {k : α → Option γ} (h : b = true → Blk Q (k x) r) : Blk Q ((Fw.okO b x).bind k) r := Blk.bind fun v e => by
  obtain ⟨h1, h2⟩ := okO_some e
  subst h2
  exact h h1
theorem Blk.env {c : Stx} {E E' : Env} (h : Blk Q p (c E')) (he : E = E') : Blk Q p (c E) := he ▸ h
theorem Blk.assoc {a b c : Stx} (h : Blk Q p (sSeq a (sSeq b c) E)) : Blk Q p (sSeq (sSeq a b) c E) := by
  have e : sSeq (sSeq a b) c E = sSeq a (sSeq b c) E := by
    unfold sSeq
    cases a E <;> rfl
  rw [e]
  exact h
theorem Blk.last {a : Stx} (h : Blk Q p (sSeq a sNext E)) : Blk Q p (a E) := by
  have e : sSeq a sNext E = a E := by
    unfold sSeq sNext
    cases a E <;> rfl
  rw [← e]
  exact h
theorem Blk.nx {a b : Stx} (h : a E = .next E1) (k : Blk Q p (b E1)) : Blk Q p (sSeq a b E) := by rw [seq_next h]; exact k
theorem Blk.ret {a b : Stx} {s : Sv} (h : a E = .ret s E1) (k : Blk Q p (.ret s E1)) : Blk Q p (sSeq a b E) := by rw [seq_ret h]; exact k
theorem Blk.brk {b : Stx} (k : Blk Q p (.brk E)) : Blk Q p (sSeq sBrk b E) := k
theorem Blk.cnt {b : Stx} (k : Blk Q p (.cnt E)) : Blk Q p (sSeq sCnt b E) := k
/-- if, each way with what follows -/
theorem Blk.ite {t : Tx} {a b c : Stx} {v : Bool} (h : t E = .ok (v, E1)) (k1 : v = true → Blk Q p (sSeq a c E1)) (k2 : v = false → Blk Q p' (sSeq b c E1)) : Blk Q (if v = true then p else p') (sSeq (sIf t a b) c E) := by
  cases v with
  | true =>
    rw [if_pos rfl]
    have e : sSeq (sIf t a b) c E = sSeq a c E1 := by unfold sSeq; rw [if_t h]
    rw [e]
    exact k1 rfl
  | false =>
    rw [if_neg (by decide)]
    have e : sSeq (sIf t a b) c E = sSeq b c E1 := by unfold sSeq; rw [if_f h]
    rw [e]
    exact k2 rfl
/-- if that comes together again -/
theorem Blk.ife {t : Tx} {a b : Stx} {v : Bool} (h : t E = .ok (v, E1)) (k1 : v = true → Blk Q p (a E1)) (k2 : v = false → Blk Q p' (b E1)) : Blk Q (if v = true then p else p') (sIf t a b E) := by
  cases v with
  | true => rw [if_pos rfl, if_t h]; exact k1 rfl
  | false => rw [if_neg (by decide), if_f h]; exact k2 rfl
theorem Blk.join {δ : Type} {P : δ → Env → Prop} {q : Option δ} {k : δ → Option γ} {a c : Stx} (h : Blk (fun s r => ∃ e, r = .next e ∧ P s e) q (a E)) (k1 : ∀ s e, P s e → Blk Q (k s) (c e)) : Blk Q (q.bind k) (sSeq a c E) := Blk.bind fun s hs => by
  obtain ⟨e, h1, h2⟩ := h s hs
  rw [seq_next h1]
  exact k1 s e h2
/-! ### a value None or not -/
theorem Blk.opt {o : Option α} {k : α → Option γ} {p : Option γ} (h1 : o = Option.none → Blk Q p r) (h2 : ∀ v, o = some v → Blk Q (k v) r) : Blk Q (match o with | Option.none => p | some v => k v) r := by
  cases o with
  | none => exact h1 rfl
  | some v => exact h2 v rfl
/-! ### expressions -/
theorem bn {g : Bf} {fa fb : Ex} {a b : Arg} {ss ss' : List Sv} {s : Sv} (h1 : fa E = .ok (a, E1)) (h2 : fb E1 = .ok (b, E2)) (h4 : g ss = some (s, ss')) (h3 : takeA [a, b] E2 = some (ss, E3)) (h5 : putA [a, b] (ss'.map some) E3 = E4) (h6 : ss'.length = ss.length) : eBin g fa fb E = .ok (.v s, E4) := by
  rw [bin_ok h1 h2 h3 h4 h6, h5]
theorem un {g : Bf} {fa : Ex} {a : Arg} {ss ss' : List Sv} {s : Sv} (h1 : fa E = .ok (a, E1)) (h4 : g ss = some (s, ss')) (h3 : takeA [a] E1 = some (ss, E3)) (h5 : putA [a] (ss'.map some) E3 = E4) (h6 : ss'.length = ss.length) : eUn g fa E = .ok (.v s, E4) := by
  unfold eUn finA
  rw [h1]
  simp only [Res.bind]
  rw [h3]
  simp only
  rw [h4]
  simp only
  rw [if_pos h6, h5]
theorem cl {g : Bf} {fa : Ax} {as : List Arg} {ss ss' : List Sv} {s : Sv} (h1 : fa E = .ok (as, E1)) (h4 : g ss = some (s, ss')) (h3 : takeA as E1 = some (ss, E3)) (h5 : putA as (ss'.map some) E3 = E4) (h6 : ss'.length = ss.length) : eCall g fa E = .ok (.v s, E4) := by
  rw [call_ok h1 h3 h4 h6, h5]
theorem ow {m : Fn} {fa : Ax} {as : List Arg} {ss : List Sv} {s : Sv} {oo : Env} (h1 : fa E = .ok (as, E1)) (h4 : m ss = .ok (s, oo)) (h3 : takeA as E1 = some (ss, E3)) (h5 : putA as oo E3 = E4) : eOwn m fa E = .ok (.v s, E4) := by
  rw [own_ok h1 h3 h4, h5]
theorem me {T : String} {g : Bf} {fo : Ex} {fa : Ax} {a : Arg} {as : List Arg} {ss ss' : List Sv} {s : Sv} (h1 : fo E = .ok (a, E1)) (hT : argTy a E1 = T) (h2 : fa E1 = .ok (as, E2)) (h4 : g ss = some (s, ss')) (h3 : takeA (a :: as) E2 = some (ss, E3)) (h5 : putA (a :: as) (ss'.map some) E3 = E4) (h6 : ss'.length = ss.length) : eMeth T g fo fa E = .ok (.v s, E4) := by
  unfold eMeth
  rw [h1]
  simp only [Res.bind]
  rw [if_pos hT, h2]
  unfold finA
  simp only [Res.bind]
  rw [h3]
  simp only
  rw [h4]
  simp only
  rw [if_pos h6, h5]
theorem me0 {T : String} {g : Bf} {fo : Ex} {a : Arg} {ss ss' : List Sv} {s : Sv} (h1 : fo E = .ok (a, E1)) (hT : argTy a E1 = T) (h4 : g ss = some (s, ss')) (h3 : takeA [a] E1 = some (ss, E3)) (h5 : putA [a] (ss'.map some) E3 = E4) (h6 : ss'.length = ss.length) : eMeth0 T g fo E = .ok (.v s, E4) := by
  unfold eMeth0
  rw [h1]
  simp only [Res.bind]
  rw [if_pos hT]
  unfold finA
  rw [h3]
  simp only
  rw [h4]
  simp only
  rw [if_pos h6, h5]
theorem bnk {g : Bf} {fa fb : Ex} {a b : Arg} {ss : List Sv} {s : Sv} (h1 : fa E = .ok (a, E)) (h2 : fb E = .ok (b, E)) (h4 : g ss = some (s, ss)) (h3 : takeA [a, b] E = some (ss, E3)) (h5 : putA [a, b] (ss.map some) E3 = E) (h6 : ss.length = ss.length) : eBin g fa fb E = .ok (.v s, E) := bn h1 h2 h4 h3 h5 h6
theorem unk {g : Bf} {fa : Ex} {a : Arg} {ss : List Sv} {s : Sv} (h1 : fa E = .ok (a, E)) (h4 : g ss = some (s, ss)) (h3 : takeA [a] E = some (ss, E3)) (h5 : putA [a] (ss.map some) E3 = E) (h6 : ss.length = ss.length) : eUn g fa E = .ok (.v s, E) := un h1 h4 h3 h5 h6
theorem clk {g : Bf} {fa : Ax} {as : List Arg} {ss : List Sv} {s : Sv} (h1 : fa E = .ok (as, E)) (h4 : g ss = some (s, ss)) (h3 : takeA as E = some (ss, E3)) (h5 : putA as (ss.map some) E3 = E) (h6 : ss.length = ss.length) : eCall g fa E = .ok (.v s, E) := cl h1 h4 h3 h5 h6
theorem owk {m : Fn} {fa : Ax} {as : List Arg} {ss : List Sv} {s : Sv} {oo : Env} (h1 : fa E = .ok (as, E)) (h4 : m ss = .ok (s, oo)) (h3 : takeA as E = some (ss, E3)) (h5 : putA as oo E3 = E) : eOwn m fa E = .ok (.v s, E) := ow h1 h4 h3 h5
theorem frz_ok {i : Nat} {s : Sv} {d : Dt} (hs : E[i]? = some (some s)) (hd : s.frz = d) (hE : E.set i (some (.fz d)) = E1) : eFrz i E = .ok (.v (.fz d), E1) := by
  unfold eFrz
  rw [hs]
  simp only
  rw [hd, hE]
theorem fz' {f : Ex} {s : Sv} {d : Dt} (h : f E = .ok (.v s, E1)) (hd : s.frz = d) : eFz f E = .ok (.v (.fz d), E1) := by rw [fz_ok h, hd]
theorem and_b {f g : Ex} {x y : Bool} (h1 : f E = .ok (.v (.fz (.bl x)), E)) (h2 : x = true → g E = .ok (.v (.fz (.bl y)), E)) (hxy : x = false → y = false) : eAnd f g E = .ok (.v (.fz (.bl y)), E) := by
  unfold eAnd
  rw [h1]
  cases x with
  | true => exact h2 rfl
  | false => rw [hxy rfl]; rfl
theorem or_b {f g : Ex} {x y : Bool} (h1 : f E = .ok (.v (.fz (.bl x)), E)) (h2 : x = false → g E = .ok (.v (.fz (.bl y)), E)) (hxy : x = true → y = true) : eOr f g E = .ok (.v (.fz (.bl y)), E) := by
  unfold eOr
  rw [h1]
  cases x with
  | true => rw [hxy rfl]; rfl
  | false => exact h2 rfl
theorem tand {f g : Tx} {x y : Bool} (h1 : f E = .ok (x, E)) (h2 : x = true → g E = .ok (y, E)) (hxy : x = false → y = false) : tAndX f g E = .ok (y, E) := by
  unfold tAndX
  rw [h1]
  cases x with
  | true => exact h2 rfl
  | false => rw [hxy rfl]; rfl
theorem tor {f g : Tx} {x y : Bool} (h1 : f E = .ok (x, E)) (h2 : x = false → g E = .ok (y, E)) (hxy : x = true → y = true) : tOrX f g E = .ok (y, E) := by
  unfold tOrX
  rw [h1]
  cases x with
  | true => rw [hxy rfl]; rfl
  | false => exact h2 rfl
/-- the right side is asked only where the left one is true -/
theorem andO_t {x y : Bool} {o : Option Bool} (h : (if x = true then o else some false) = some y) (hx : x = true) : o = some y := by rw [if_pos hx] at h; exact h
theorem andO_f {x y : Bool} {o : Option Bool} (h : (if x = true then o else some false) = some y) (hx : x = false) : y = false := by subst hx; cases h; rfl
theorem orO_f {x y : Bool} {o : Option Bool} (h : (if x = true then some true else o) = some y) (hx : x = false) : o = some y := by subst hx; exact h
theorem orO_t {x y : Bool} {o : Option Bool} (h : (if x = true then some true else o) = some y) (hx : x = true) : y = true := by subst hx; cases h; rfl
theorem and_bl {x y : Bool} (hx : x = false) : (x && y) = false := by rw [hx]; rfl
theorem or_bl {x y : Bool} (hx : x = true) : (x || y) = true := by rw [hx]; rfl
theorem tif {t : Tx} {f g : Ex} {x : Bool} {a : Arg} (h : t E = .ok (x, E1)) (h1 : x = true → f E1 = .ok (a, E2)) (h2 : x = false → g E1 = .ok (a, E2)) : eIf t f g E = .ok (a, E2) := by
  unfold eIf
  rw [h]
  cases x with
  | true => exact h1 rfl
  | false => exact h2 rfl
theorem not_b {f : Ex} {x : Bool} (h : f E = .ok (.v (.fz (.bl x)), E1)) : eNot f E = .ok (.v (.fz (.bl (!x))), E1) := by
  unfold eNot
  rw [h]
  rfl
theorem tof {f : Ex} {a : Arg} {x : Bool} (h : f E = .ok (a, E1)) (ht : truthA a E1 = some x) : tOf f E = .ok (x, E1) := by
  unfold tOf
  rw [h]
  simp only [Res.bind]
  rw [ht]
/-! ### statements -/
theorem st_set {i : Nat} {f : Ex} {s : Sv} (h : f E = .ok (.v s, E1)) (hi : i < E1.length) (hE : E1.set i (some s) = E2) : sSet i f E = .next E2 := by rw [set_next h hi, hE]
theorem st_unp {g : Tgt} {f : Ex} {d : Dt} (h : f E = .ok (.v (.fz d), E1)) (hg : g d E1 = some E2) : sUnp g f E = .next E2 := by
  unfold sUnp ofE
  rw [h]
  simp only
  rw [hg]
theorem st_aug {i : Nat} {f : Ex} {g : Int → Int → Int} {x y : Int} (hs : E[i]? = some (some (.fz (.int x)))) (h : f E = .ok (.v (.fz (.int y)), E1)) (hi : i < E1.length) (hE : E1.set i (some (.fz (.int (g x y)))) = E2) : sAug i (ipB g pT) f E = .next E2 := by
  unfold sAug
  rw [hs]
  simp only
  rw [h]
  simp [hi, hE]
end
/-! ### comprehensions -/
section
variable {α β σ ρ γ : Type}
/-- one turn -/
def c1 (g : Tgt) (t : Tx) (elt : Ex) (own : List Nat) (d : Dt) (e : Env) : Res (Option Sv × Env) := match g d e with
  | none => .bad
  | some e1 => match t e1 with
    | .ok p => if p.1 then match elt p.2 with
        | .ok (.v s, e3) => .ok (some s, wipeE e3 own)
        | _ => .bad
      else .ok (none, wipeE p.2 own)
    | _ => .bad
@[simp] def consO : Option Sv → List Sv → List Sv
  | some s, l => s :: l
  | none, l => l
theorem compL_c1 {g : Tgt} {t : Tx} {elt : Ex} {own : List Nat} {d : Dt} {ds : List Dt} {e e' : Env} {c : Option Sv} (h : c1 g t elt own d e = .ok (c, e')) : compL g t elt own (d :: ds) e = (compL g t elt own ds e').bind fun r => .ok (consO c r.1, r.2) := by
  unfold c1 at h
  rw [compL]
  cases h1 : g d e with
  | none => simp only [h1] at h; cases h
  | some e1 =>
    simp only [h1] at h ⊢
    cases h2 : t e1 with
    | bad => simp only [h2] at h; cases h
    | exc x e => simp only [h2] at h; cases h
    | ok p =>
      simp only [h2] at h ⊢
      by_cases hp : p.1 = true
      · rw [if_pos hp] at h ⊢
        cases h3 : elt p.2 with
        | bad => simp only [h3] at h; cases h
        | exc x e => simp only [h3] at h; cases h
        | ok q =>
          obtain ⟨a, e3⟩ := q
          cases a with
          | r i => simp only [h3] at h; cases h
          | v s =>
            simp only [h3] at h ⊢
            cases h
            rfl
      · rw [if_neg hp] at h ⊢
        cases h
        cases compL g t elt own ds (wipeE p.2 own) <;> rfl
theorem c1_yes {g : Tgt} {t : Tx} {elt : Ex} {own : List Nat} {d : Dt} {e e1 e2 e3 e4 : Env} {s : Sv} (h1 : g d e = some e1) (h2 : t e1 = .ok (true, e2)) (h3 : elt e2 = .ok (.v s, e3)) (h4 : wipeE e3 own = e4) : c1 g t elt own d e = .ok (some s, e4) := by
  unfold c1
  rw [h1]
  simp only
  rw [h2]
  simp only [if_true]
  rw [h3]
  simp only
  rw [h4]
theorem c1_no {g : Tgt} {t : Tx} {elt : Ex} {own : List Nat} {d : Dt} {e e1 e2 e4 : Env} (h1 : g d e = some e1) (h2 : t e1 = .ok (false, e2)) (h4 : wipeE e2 own = e4) : c1 g t elt own d e = .ok (none, e4) := by
  unfold c1
  rw [h1]
  simp only
  rw [h2]
  simp only [Bool.false_eq_true, if_false]
  rw [h4]
/-- with a test -/
theorem c1_if {g : Tgt} {t : Tx} {elt : Ex} {own : List Nat} {d : Dt} {e e1 e2 e4 : Env} {b : Bool} {v : β} {sv : β → Sv} (h1 : g d e = some e1) (h2 : t e1 = .ok (b, e2)) (h4 : b = false → wipeE e2 own = e4) (h3 : b = true → ∃ e3, elt e2 = .ok (.v (sv v), e3) ∧ wipeE e3 own = e4) : c1 g t elt own d e = .ok ((if b = true then some v else none).map sv, e4) := by
  cases b with
  | true =>
    obtain ⟨e3, h5, h6⟩ := h3 rfl
    rw [if_pos rfl]
    exact c1_yes h1 h2 h5 h6
  | false =>
    rw [if_neg (by decide)]
    exact c1_no h1 h2 (h4 rfl)
theorem compL_O {g : Tgt} {t : Tx} {elt : Ex} {own : List Nat} {e : α → Dt} {sv : β → Sv} {f : α → Option (Option β)} {B : Env} (hi : ∀ x c, f x = some c → c1 g t elt own (e x) B = .ok (c.map sv, B)) : ∀ {xs : List α} {r : List β}, cmpO f xs = some r → compL g t elt own (xs.map e) B = .ok (r.map sv, B)
  | [], r, h => by cases h; rfl
  | x :: xs, r, h => by
    obtain ⟨c, h1, h⟩ := bnd h
    obtain ⟨r', h2, h⟩ := bnd h
    rw [List.map_cons, compL_c1 (hi x c h1), compL_O hi h2]
    cases c with
    | none => cases h; rfl
    | some v => cases h; rfl
theorem compL_T {g : Tgt} {t : Tx} {elt : Ex} {own : List Nat} {e : α → Dt} {sv : β → Sv} {tb : α → Bool} {v : α → β} {B : Env} (hi : ∀ x, c1 g t elt own (e x) B = .ok ((if tb x = true then some (v x) else none).map sv, B)) : ∀ {xs : List α}, compL g t elt own (xs.map e) B = .ok (((xs.filter tb).map v).map sv, B)
  | [] => rfl
  | x :: xs => by
    rw [List.map_cons, compL_c1 (hi x), compL_T hi]
    cases h : tb x with
    | true => rw [List.filter_cons_of_pos h, if_pos rfl]; rfl
    | false => rw [List.filter_cons_of_neg (by rw [h]; decide), if_neg (by decide)]; rfl
theorem compL_M {g : Tgt} {t : Tx} {elt : Ex} {own : List Nat} {e : α → Dt} {sv : β → Sv} {v : α → β} {B : Env} (hi : ∀ x, c1 g t elt own (e x) B = .ok (some (sv (v x)), B)) : ∀ {xs : List α}, compL g t elt own (xs.map e) B = .ok ((xs.map v).map sv, B)
  | [] => rfl
  | x :: xs => by
    rw [List.map_cons, compL_c1 (hi x), compL_M hi]
    rfl
theorem compL_S {g : Tgt} {t : Tx} {elt : Ex} {own : List Nat} {e : α → Dt} {sv : β → Sv} {f : α → σ → Option (Option β × σ)} {B : σ → Env} (hi : ∀ x s c s', f x s = some (c, s') → c1 g t elt own (e x) (B s) = .ok (c.map sv, B s')) : ∀ {xs : List α} {s s' : σ} {r : List β}, cmpS f xs s = some (r, s') → compL g t elt own (xs.map e) (B s) = .ok (r.map sv, B s')
  | [], s, s', r, h => by cases h; rfl
  | x :: xs, s, s', r, h => by
    obtain ⟨⟨c, s1⟩, h1, h⟩ := bnd h
    obtain ⟨⟨r', s2⟩, h2, h⟩ := bnd h
    rw [List.map_cons, compL_c1 (hi x s c s1 h1), compL_S hi h2]
    cases c with
    | none => cases h; rfl
    | some v => cases h; rfl
/-- the whole comprehension, from its turns -/
theorem lc {fA : Ax} {gI : List Sv → Option (List Dt)} {own : List Nat} {g : Tgt} {t : Tx} {elt : Ex} {E E1 E2 E3 E4 B : Env} {as : List Arg} {ss : List Sv} {xs : List α} {e : α → Dt} {r r' : List β} {sv : β → Sv} (h1 : fA E = .ok (as, E1)) (h2 : gI ss = some (xs.map e)) (h3 : takeA as E1 = some (ss, E2)) (hB : wipeE E2 own = B)
    (hc : compL g t elt own (xs.map e) B = .ok (r'.map sv, E3)) (hr : capO r' = some r) (h4 : putA as (ss.map some) (restE E2 (wipeE E3 own) own) = E4) : eLc fA gI own g t elt E = .ok (.v (.lst (r.map sv)), E4) := by
  obtain ⟨h5, rfl⟩ := capO_some hr
  rw [← hB] at hc
  unfold eLc
  rw [h1]
  simp only
  rw [h3]
  simp only
  rw [h2]
  simp only
  rw [hc]
  simp only
  rw [if_pos (Nat.le_trans (by rw [List.length_map]; exact h5) line24), h4]
/-- what a comprehension leaves in a slot of its own -/
def rj (o : Option Sv) : Option Sv := match o with
  | some (.fz d) => some (.fz d)
  | _ => none
theorem rest_nil {e0 e : Env} : restE e0 e [] = e := rfl
theorem rest_cons {e0 e e' : Env} {i : Nat} {own : List Nat} {o : Option Sv} (h : restE e0 e own = e') (h0 : e0[i]? = some o) (hn : e'[i]? = some none) : restE e0 e (i :: own) = e'.set i (rj o) := by
  rw [restE, h, h0]
  have hs : e'.set i none = e' := by
    apply List.ext_getElem?
    intro j
    by_cases hj : i = j
    · subst hj
      rw [List.getElem?_set_self (List.getElem?_eq_some_iff.mp hn).1, hn]
    · rw [List.getElem?_set_ne hj]
  match o with
  | some (.fz d) => rfl
  | some (.lst _) => exact hs.symm
  | some (.ins _ _ _) => exact hs.symm
  | none => exact hs.symm
/-! ### loops -/
theorem forL_O (P : σ → Env → Prop) {g : Tgt} {body : Stx} {e : α → Dt} {f : α → σ → Option σ} (hb : ∀ x s s' e0, P s e0 → f x s = some s' → ∃ e1, g (e x) e0 = some e1 ∧ ∃ e2, (body e1 = .next e2 ∨ body e1 = .cnt e2) ∧ P s' e2) : ∀ {xs : List α} {s s' : σ} {E : Env}, P s E → forO f xs s = some s' → ∃ e2, forL g body (xs.map e) E = .next e2 ∧ P s' e2
  | [], s, s', E, h0, h => by cases h; exact ⟨E, rfl, h0⟩
  | x :: xs, s, s', E, h0, h => by
    obtain ⟨s1, h1, h⟩ := bnd h
    obtain ⟨e1, h2, e2, h3, h4⟩ := hb x s s1 E h0 h1
    obtain ⟨e3, h5, h6⟩ := forL_O P hb h4 h
    refine ⟨e3, ?_, h6⟩
    rw [List.map_cons, forL, h2]
    rcases h3 with h3 | h3 <;> simp only [h3] <;> exact h5
/-- what a turn may end in -/
def TurnQ (P : σ → Env → Prop) (R : ρ → Sv → Env → Prop) : Ct σ ρ → SRes → Prop
  | .nx s, r => ∃ e, (r = .next e ∨ r = .cnt e) ∧ P s e
  | .bk s, r => ∃ e, r = .brk e ∧ P s e
  | .rt v, r => ∃ w e, r = .ret w e ∧ R v w e
def LoopQ (P : σ → Env → Prop) (R : ρ → Sv → Env → Prop) : Ct σ ρ → SRes → Prop
  | .nx s, r => ∃ e, r = .next e ∧ P s e
  | .bk _, _ => False
  | .rt v, r => ∃ w e, r = .ret w e ∧ R v w e
theorem forL_C (P : σ → Env → Prop) (R : ρ → Sv → Env → Prop) {g : Tgt} {body : Stx} {e : α → Dt} {f : α → σ → Option (Ct σ ρ)} (hb : ∀ x s c e0, P s e0 → f x s = some c → ∃ e1, g (e x) e0 = some e1 ∧ TurnQ P R c (body e1)) : ∀ {xs : List α} {s : σ} {c : Ct σ ρ} {E : Env}, P s E → forC f xs s = some c → LoopQ P R c (forL g body (xs.map e) E)
  | [], s, c, E, h0, h => by cases h; exact ⟨E, rfl, h0⟩
  | x :: xs, s, c, E, h0, h => by
    obtain ⟨c1, h1, h⟩ := bnd h
    obtain ⟨e1, h2, h3⟩ := hb x s c1 E h0 h1
    rw [List.map_cons, forL, h2]
    cases c1 with
    | nx s1 =>
      obtain ⟨e2, h4, h5⟩ := h3
      have := forL_C P R hb (xs := xs) (c := c) h5 h
      rcases h4 with h4 | h4 <;> simp only [h4] <;> exact this
    | bk s1 =>
      obtain ⟨e2, h4, h5⟩ := h3
      cases h
      simp only [h4]
      exact ⟨e2, rfl, h5⟩
    | rt v =>
      obtain ⟨w, e2, h4, h5⟩ := h3
      cases h
      simp only [h4]
      exact ⟨w, e2, rfl, h5⟩
section
variable {fA : Ax} {gI : List Sv → Option (List Dt)} {P' : List Bool} {g : Tgt} {body : Stx} {E E1 E2 : Env} {as : List Arg} {ss : List Sv} {xs : List α} {e : α → Dt} {s0 : σ}
theorem for_eq (h1 : fA E = .ok (as, E1)) (h2 : gI ss = some (xs.map e)) (h3 : takeA as E1 = some (ss, E2)) (h4 : refsIn P' as = true) : sFor fA gI P' g body E = mapEnv (putA as (ss.map some)) (forL g body (xs.map e) E2) := by
  unfold sFor
  rw [h1]
  simp only
  rw [h3]
  simp only
  rw [h2]
  simp only
  rw [if_pos h4]
theorem for_o {f : α → σ → Option σ} (P : σ → Env → Prop) (h1 : fA E = .ok (as, E1)) (h2 : gI ss = some (xs.map e)) (h3 : takeA as E1 = some (ss, E2)) (h4 : refsIn P' as = true) (h0 : P s0 E2)
    (hb : ∀ x s s' e0, P s e0 → f x s = some s' → ∃ e1, g (e x) e0 = some e1 ∧ ∃ e2, (body e1 = .next e2 ∨ body e1 = .cnt e2) ∧ P s' e2) {s1 : σ} (hs : forO f xs s0 = some s1) : ∃ e3, P s1 e3 ∧ sFor fA gI P' g body E = .next (putA as (ss.map some) e3) := by
  obtain ⟨e3, h5, h6⟩ := forL_O P hb h0 hs
  exact ⟨e3, h6, by rw [for_eq h1 h2 h3 h4, h5]; rfl⟩
theorem for_c {f : α → σ → Option (Ct σ ρ)} (P : σ → Env → Prop) (R : ρ → Sv → Env → Prop) (h1 : fA E = .ok (as, E1)) (h2 : gI ss = some (xs.map e)) (h3 : takeA as E1 = some (ss, E2)) (h4 : refsIn P' as = true) (h0 : P s0 E2)
    (hb : ∀ x s c e0, P s e0 → f x s = some c → ∃ e1, g (e x) e0 = some e1 ∧ TurnQ P R c (body e1)) {c : Ct σ ρ} (hs : forC f xs s0 = some c) :
    LoopQ (fun s e => ∃ e3, P s e3 ∧ e = putA as (ss.map some) e3) (fun v w e => ∃ e3, R v w e3 ∧ e = putA as (ss.map some) e3) c (sFor fA gI P' g body E) := by
  have h := forL_C P R hb h0 hs
  rw [for_eq h1 h2 h3 h4]
  cases c with
  | nx s =>
    obtain ⟨e3, h5, h6⟩ := h
    rw [h5]
    exact ⟨_, rfl, e3, h6, rfl⟩
  | bk s => exact h.elim
  | rt v =>
    obtain ⟨w, e3, h5, h6⟩ := h
    rw [h5]
    exact ⟨w, _, rfl, e3, h6, rfl⟩
theorem whl_o {t : Tx} {f : σ → Option σ} {tp : σ → Option Bool} (P : σ → Env → Prop) (ht : ∀ s b e0, P s e0 → tp s = some b → t e0 = .ok (b, e0)) (hb : ∀ s s' e0, P s e0 → f s = some s' → ∃ e2, (body e0 = .next e2 ∨ body e0 = .cnt e2) ∧ P s' e2) : ∀ {n : Nat} {s s1 : σ} {E : Env}, P s E → whlO tp f n s = some s1 → ∃ e3, P s1 e3 ∧ sWhile n t body E = .next e3
  | 0, s, s1, E, _, h => by cases h
  | n + 1, s, s1, E, h0, h => by
    obtain ⟨b, h1, h⟩ := bnd h
    have h2 := ht s b E h0 h1
    unfold sWhile
    rw [whileL, h2]
    cases b with
    | false =>
      rw [if_neg (by decide)] at h
      cases h
      exact ⟨E, h0, rfl⟩
    | true =>
      rw [if_pos rfl] at h
      obtain ⟨s2, h3, h⟩ := bnd h
      obtain ⟨e2, h4, h5⟩ := hb s s2 E h0 h3
      obtain ⟨e3, h6, h7⟩ := whl_o P ht hb h5 h
      refine ⟨e3, h6, ?_⟩
      simp only [if_true]
      rcases h4 with h4 | h4 <;> rw [h4] <;> exact h7
theorem whl_c {t : Tx} {f : σ → Option (Ct σ ρ)} {tp : σ → Option Bool} (P : σ → Env → Prop) (R : ρ → Sv → Env → Prop) (ht : ∀ s b e0, P s e0 → tp s = some b → t e0 = .ok (b, e0)) (hb : ∀ s c e0, P s e0 → f s = some c → TurnQ P R c (body e0)) : ∀ {n : Nat} {s : σ} {c : Ct σ ρ} {E : Env}, P s E → whlC tp f n s = some c → LoopQ P R c (sWhile n t body E)
  | 0, s, c, E, _, h => by cases h
  | n + 1, s, c, E, h0, h => by
    obtain ⟨b, h1, h⟩ := bnd h
    have h2 := ht s b E h0 h1
    unfold sWhile
    rw [whileL, h2]
    cases b with
    | false =>
      rw [if_neg (by decide)] at h
      cases h
      exact ⟨E, rfl, h0⟩
    | true =>
      rw [if_pos rfl] at h
      obtain ⟨c1, h3, h⟩ := bnd h
      have h4 := hb s c1 E h0 h3
      simp only [if_true]
      cases c1 with
      | nx s1 =>
        obtain ⟨e2, h5, h6⟩ := h4
        have := whl_c P R ht hb (n := n) (c := c) h6 h
        rcases h5 with h5 | h5 <;> rw [h5] <;> exact this
      | bk s1 =>
        obtain ⟨e2, h5, h6⟩ := h4
        cases h
        rw [h5]
        exact ⟨e2, rfl, h6⟩
      | rt v =>
        obtain ⟨w, e2, h5, h6⟩ := h4
        cases h
        rw [h5]
        exact ⟨w, e2, rfl, h6⟩
end
/-- a loop with ends of its own, and what follows -/
theorem Blk.loop {P : σ → Env → Prop} {R : ρ → Sv → Env → Prop} {o : Option (Ct σ ρ)} {k : σ → Option γ} {k2 : ρ → Option γ} {Q : γ → SRes → Prop} {a c : Stx} {E : Env} (h : ∀ d, o = some d → LoopQ P R d (a E)) (h1 : ∀ s e, P s e → Blk Q (k s) (c e)) (h2 : ∀ v w e, R v w e → Blk Q (k2 v) (.ret w e)) : Blk Q (o.bind fun d => match d with | .nx s => k s | .bk _ => none | .rt v => k2 v) (sSeq a c E) := Blk.bind fun d hd => by
  have := h d hd
  cases d with
  | nx s =>
    obtain ⟨e, h3, h4⟩ := this
    rw [seq_next h3]
    exact h1 s e h4
  | bk s => exact this.elim
  | rt v =>
    obtain ⟨w, e, h3, h4⟩ := this
    rw [seq_ret h3]
    exact h2 v w e h4
/-- a def -/
def FnQ (P : List Bool) (R : ρ → Sv) (O : ρ → Env) : ρ → SRes → Prop := fun c r => ∃ e, (r = .ret (R c) e ∨ (r = .next e ∧ R c = .fz .non)) ∧ maskE P e = O c
theorem fn_of {n : Nat} {P : List Bool} {f : Stx} {ss : List Sv} {R : ρ → Sv} {O : ρ → Env} {p : Option ρ} {E : Env} {c : ρ} (h : Blk (FnQ P R O) p (f E)) (hp : p = some c) (hl : ss.length = P.length) (he : ss.map some ++ List.replicate (n - ss.length) none = E) : fnSem n P f ss = .ok (R c, O c) := by
  obtain ⟨e, h1, h2⟩ := h c hp
  unfold fnSem
  rw [if_pos hl, he]
  rcases h1 with h1 | ⟨h1, h3⟩
  · rw [h1, ← h2]
  · rw [h1, h3, ← h2]
end
/-! ### short forms for the printed proofs -/
section
variable {α β σ ρ γ : Type}
def optO (o : Option α) (p : Option γ) (k : α → Option γ) : Option γ := match o with
  | none => p
  | some v => k v
def ctO (k : σ → Option γ) (k2 : ρ → Option γ) : Ct σ ρ → Option γ
  | .nx s => k s
  | .bk _ => none
  | .rt v => k2 v
@[simp] theorem optO_none {p : Option γ} {k : α → Option γ} : optO none p k = p := rfl
@[simp] theorem optO_some {v : α} {p : Option γ} {k : α → Option γ} : optO (some v) p k = k v := rfl
@[simp] theorem ctO_nx {s : σ} {k : σ → Option γ} {k2 : ρ → Option γ} : ctO k k2 (.nx s) = k s := rfl
@[simp] theorem ctO_rt {s : ρ} {k : σ → Option γ} {k2 : ρ → Option γ} : ctO k k2 (.rt s) = k2 s := rfl
variable {Q : γ → SRes → Prop} {p p' : Option γ} {E E1 E2 : Env}
theorem Blk.optO {o : Option α} {k : α → Option γ} {r : SRes} (h1 : o = Option.none → Blk Q p r) (h2 : ∀ v, o = some v → Blk Q (k v) r) : Blk Q (Fw.optO o p k) r := by
  cases o with
  | none => exact h1 rfl
  | some v => exact h2 v rfl
theorem Blk.ift {t : Tx} {a b c : Stx} (h : t E = .ok (true, E1)) (k : Blk Q p (sSeq a c E1)) : Blk Q p (sSeq (sIf t a b) c E) := by
  have e : sSeq (sIf t a b) c E = sSeq a c E1 := by unfold sSeq; rw [if_t h]
  rw [e]
  exact k
theorem Blk.iff {t : Tx} {a b c : Stx} (h : t E = .ok (false, E1)) (k : Blk Q p (sSeq b c E1)) : Blk Q p (sSeq (sIf t a b) c E) := by
  have e : sSeq (sIf t a b) c E = sSeq b c E1 := by unfold sSeq; rw [if_f h]
  rw [e]
  exact k
theorem tb {f : Ex} {b : Bool} (h : f E = .ok (.v (.fz (.bl b)), E1)) : tBl f E = .ok (b, E1) := bl_ok h
theorem tnot {t : Tx} {b : Bool} (h : t E = .ok (b, E1)) : tNotX t E = .ok (!b, E1) := not_ok h
def TurnO (P : σ → Env → Prop) (s : σ) (r : SRes) : Prop := ∃ e, (r = .next e ∨ r = .cnt e) ∧ P s e
def JoinQ (P : σ → Env → Prop) (s : σ) (r : SRes) : Prop := ∃ e, r = .next e ∧ P s e
theorem Blk.joinQ {P : σ → Env → Prop} {q : Option σ} {k : σ → Option γ} {a c : Stx} (h : Blk (JoinQ P) q (a E)) (k1 : ∀ s e, P s e → Blk Q (k s) (c e)) : Blk Q (q.bind k) (sSeq a c E) := Blk.bind fun s hs => by
  obtain ⟨e, h1, h2⟩ := h s hs
  rw [seq_next h1]
  exact k1 s e h2
section
variable {fA : Ax} {gI : List Sv → Option (List Dt)} {P' : List Bool} {g : Tgt} {body b : Stx} {as : List Arg} {ss : List Sv} {xs : List α} {e : α → Dt} {s0 : σ}
theorem Blk.forO {f : α → σ → Option σ} {k : σ → Option γ} (P : σ → Env → Prop) (h1 : fA E = .ok (as, E1)) (h2 : gI ss = some (xs.map e)) (h3 : takeA as E1 = some (ss, E2)) (h4 : refsIn P' as = true) (h0 : P s0 E2)
    (hb : ∀ x s e0, P s e0 → ∃ e1, g (e x) e0 = some e1 ∧ Blk (TurnO P) (f x s) (body e1)) (hk : ∀ s e3, P s e3 → Blk Q (k s) (b (putA as (ss.map some) e3))) : Blk Q ((Fw.forO f xs s0).bind k) (sSeq (sFor fA gI P' g body) b E) := Blk.bind fun s hs => by
  obtain ⟨e3, h5, h6⟩ := for_o (f := f) P h1 h2 h3 h4 h0 (fun x s s' e0 hP hf => by
    obtain ⟨e1, h7, h8⟩ := hb x s e0 hP
    exact ⟨e1, h7, h8 s' hf⟩) hs
  rw [seq_next h6]
  exact hk s e3 h5
theorem Blk.forC {f : α → σ → Option (Ct σ ρ)} {k : σ → Option γ} {k2 : ρ → Option γ} (P : σ → Env → Prop) (R : ρ → Sv → Env → Prop) (h1 : fA E = .ok (as, E1)) (h2 : gI ss = some (xs.map e)) (h3 : takeA as E1 = some (ss, E2)) (h4 : refsIn P' as = true) (h0 : P s0 E2)
    (hb : ∀ x s e0, P s e0 → ∃ e1, g (e x) e0 = some e1 ∧ Blk (TurnQ P R) (f x s) (body e1)) (hk : ∀ s e3, P s e3 → Blk Q (k s) (b (putA as (ss.map some) e3))) (hk2 : ∀ v w e3, R v w e3 → Blk Q (k2 v) (.ret w (putA as (ss.map some) e3))) : Blk Q ((Fw.forC f xs s0).bind (ctO k k2)) (sSeq (sFor fA gI P' g body) b E) := Blk.bind fun d hd => by
  have h := for_c (f := f) P R h1 h2 h3 h4 h0 (fun x s c e0 hP hf => by
    obtain ⟨e1, h7, h8⟩ := hb x s e0 hP
    exact ⟨e1, h7, h8 c hf⟩) hd
  cases d with
  | nx s =>
    obtain ⟨e, h5, e3, h6, rfl⟩ := h
    rw [seq_next h5]
    exact hk s e3 h6
  | bk s => exact h.elim
  | rt v =>
    obtain ⟨w, e, h5, e3, h6, rfl⟩ := h
    rw [seq_ret h5]
    exact hk2 v w e3 h6
theorem Blk.whlO {t : Tx} {tp : σ → Option Bool} {f : σ → Option σ} {k : σ → Option γ} {n : Nat} (P : σ → Env → Prop) (h0 : P s0 E) (ht : ∀ s b e0, P s e0 → tp s = some b → t e0 = .ok (b, e0))
    (hb : ∀ s e0, P s e0 → Blk (TurnO P) (f s) (body e0)) (hk : ∀ s e3, P s e3 → Blk Q (k s) (b e3)) : Blk Q ((Fw.whlO tp f n s0).bind k) (sSeq (sWhile n t body) b E) := Blk.bind fun s hs => by
  obtain ⟨e3, h5, h6⟩ := whl_o P ht (fun s s' e0 hP hf => hb s e0 hP s' hf) h0 hs
  rw [seq_next h6]
  exact hk s e3 h5
theorem Blk.whlC {t : Tx} {tp : σ → Option Bool} {f : σ → Option (Ct σ ρ)} {k : σ → Option γ} {k2 : ρ → Option γ} {n : Nat} (P : σ → Env → Prop) (R : ρ → Sv → Env → Prop) (h0 : P s0 E) (ht : ∀ s b e0, P s e0 → tp s = some b → t e0 = .ok (b, e0))
    (hb : ∀ s e0, P s e0 → Blk (TurnQ P R) (f s) (body e0)) (hk : ∀ s e3, P s e3 → Blk Q (k s) (b e3)) (hk2 : ∀ v w e3, R v w e3 → Blk Q (k2 v) (.ret w e3)) : Blk Q ((Fw.whlC tp f n s0).bind (ctO k k2)) (sSeq (sWhile n t body) b E) := Blk.bind fun d hd => by
  have h := whl_c P R ht (fun s c e0 hP hf => hb s e0 hP c hf) h0 hd
  cases d with
  | nx s =>
    obtain ⟨e, h5, h6⟩ := h
    rw [seq_next h5]
    exact hk s e h6
  | bk s => exact h.elim
  | rt v =>
    obtain ⟨w, e, h5, h6⟩ := h
    rw [seq_ret h5]
    exact hk2 v w e h6
end
theorem iteO {b : Bool} {x y : Option α} {c : α} (h : (if b = true then x else y) = some c) : (b = true ∧ x = some c) ∨ (b = false ∧ y = some c) := by
  cases b with
  | true => exact .inl ⟨rfl, h⟩
  | false => exact .inr ⟨rfl, h⟩
theorem okT {t : Tx} {b : Bool} (h : t E = .ok (b, E1)) (hb : b = true) : t E = .ok (true, E1) := hb ▸ h
theorem okF {t : Tx} {b : Bool} (h : t E = .ok (b, E1)) (hb : b = false) : t E = .ok (false, E1) := hb ▸ h
theorem tand_t {f g : Tx} {x y : Bool} (h1 : f E = .ok (x, E)) (h2 : g E = .ok (y, E)) : tAndX f g E = .ok (x && y, E) := tand h1 (fun hx => by rw [h2, hx]; rfl) fun hx => by rw [hx]; rfl
theorem tor_t {f g : Tx} {x y : Bool} (h1 : f E = .ok (x, E)) (h2 : g E = .ok (y, E)) : tOrX f g E = .ok (x || y, E) := tor h1 (fun hx => by rw [h2, hx]; rfl) fun hx => by rw [hx]; rfl
theorem and_t' {f g : Ex} {x y : Bool} (h1 : f E = .ok (.v (.fz (.bl x)), E)) (h2 : g E = .ok (.v (.fz (.bl y)), E)) : eAnd f g E = .ok (.v (.fz (.bl (x && y))), E) := and_b h1 (fun hx => by rw [h2, hx]; rfl) fun hx => by rw [hx]; rfl
theorem or_t' {f g : Ex} {x y : Bool} (h1 : f E = .ok (.v (.fz (.bl x)), E)) (h2 : g E = .ok (.v (.fz (.bl y)), E)) : eOr f g E = .ok (.v (.fz (.bl (x || y))), E) := or_b h1 (fun hx => by rw [h2, hx]; rfl) fun hx => by rw [hx]; rfl
/-- the right side may change slots -/
theorem tand_s {f g : Tx} {x y : Bool} (h1 : f E = .ok (x, E1)) (h2 : x = true → g E1 = .ok (y, E2)) (h3 : x = false → y = false ∧ E1 = E2) : tAndX f g E = .ok (y, E2) := by
  unfold tAndX
  rw [h1]
  cases x with
  | true => exact h2 rfl
  | false => obtain ⟨rfl, rfl⟩ := h3 rfl; rfl
theorem tor_s {f g : Tx} {x y : Bool} (h1 : f E = .ok (x, E1)) (h2 : x = false → g E1 = .ok (y, E2)) (h3 : x = true → y = true ∧ E1 = E2) : tOrX f g E = .ok (y, E2) := by
  unfold tOrX
  rw [h1]
  cases x with
  | true => obtain ⟨rfl, rfl⟩ := h3 rfl; rfl
  | false => exact h2 rfl
theorem and_s {f g : Ex} {x y : Bool} (h1 : f E = .ok (.v (.fz (.bl x)), E1)) (h2 : x = true → g E1 = .ok (.v (.fz (.bl y)), E2)) (h3 : x = false → y = false ∧ E1 = E2) : eAnd f g E = .ok (.v (.fz (.bl y)), E2) := by
  unfold eAnd
  rw [h1]
  cases x with
  | true => exact h2 rfl
  | false => obtain ⟨rfl, rfl⟩ := h3 rfl; rfl
theorem or_s {f g : Ex} {x y : Bool} (h1 : f E = .ok (.v (.fz (.bl x)), E1)) (h2 : x = false → g E1 = .ok (.v (.fz (.bl y)), E2)) (h3 : x = true → y = true ∧ E1 = E2) : eOr f g E = .ok (.v (.fz (.bl y)), E2) := by
  unfold eOr
  rw [h1]
  cases x with
  | true => obtain ⟨rfl, rfl⟩ := h3 rfl; rfl
  | false => exact h2 rfl
theorem tup_ok {fa : Ax} {as : List Arg} {ss : List Sv} {d : Dt} (h : fa E = .ok (as, E1)) (ha : allV as = some ss) (hd : Dt.tup (frzs ss) = d) (hl : ss.length ≤ 1000) : eTup fa E = .ok (.v (.fz d), E1) := by
  subst hd
  unfold eTup
  rw [h]
  simp only [Res.bind]
  rw [ha]
  exact if_pos hl
theorem lst_ok {fa : Ax} {as : List Arg} {ss : List Sv} (h : fa E = .ok (as, E1)) (ha : allV as = some ss) (hl : ss.length ≤ 1000) : eLst fa E = .ok (.v (.lst ss), E1) := by
  unfold eLst
  rw [h]
  simp only [Res.bind]
  rw [ha]
  exact if_pos hl
theorem st_par {i j : Nat} {fa : Ax} {s t : Sv} (h : fa E = .ok ([.v s, .v t], E1)) (hi : i < E1.length ∧ j < E1.length) (hE : (E1.set i (some s)).set j (some t) = E2) : sPar i j fa E = .next E2 := by
  unfold sPar
  rw [h]
  simp only
  rw [if_pos hi, hE]
theorem ch_ok {g0 g0' : Sv → Sv → Option Sv} {fa fb fc : Ex} {s t : Sv} {d : Dt} {a : Arg} {x y : Bool} (h1 : fa E = .ok (.v s, E)) (h2 : fb E = .ok (.v (.fz d), E)) (h3 : fc E = .ok (a, E)) (k1 : g0 s (.fz d) = some (.fz (.bl x))) (k2 : g0' (.fz d) t = some (.fz (.bl y))) {E3 : Env} (h4 : takeA [.v (.fz d), a] E = some ([.fz d, t], E3)) (h5 : putA [.v (.fz d), a] [some (.fz d), some t] E3 = E) :
    eChain g0 g0' fa fb fc E = .ok (.v (.fz (.bl (x && y))), E) := by
  unfold eChain
  rw [h1]
  simp only [Res.bind]
  rw [h2]
  simp only [kChn]
  rw [k1]
  simp only
  cases x with
  | false => rfl
  | true =>
    simp only [if_true, Res.bind]
    rw [h3]
    simp only
    unfold finA
    rw [h4]
    simp only [keep2]
    rw [k2]
    simp only [Option.map_some, List.map_cons, List.map_nil]
    simp only [List.length_cons, List.length_nil, if_true]
    rw [h5]
    rfl
end
end Fw
set_option Elab.async false
set_option linter.all false
set_option maxRecDepth 100000
set_option maxHeartbeats 1000000
/-! Typed forms: what the built-ins answer. -/
namespace Fw
open PySem PySem.Spec PyProof.Rows L2
section
variable {α β : Type}
/-! ### data that may be compared -/
class EqE {α : Type} (n : outParam Nat) (e : α → Dt) : Prop where
  lay : ∀ x, (e x).py.canLay0 = true
  dep : ∀ x, (e x).py.depth ≤ n
  inj : ∀ x y, PyData.eqv (e x).py (e y).py = true ↔ x = y
class NnE {α : Type} (e : α → Dt) : Prop where
  nn : ∀ x, isNonS (.fz (e x)) = false
instance : EqE 0 eI := ⟨fun _ => rfl, fun _ => Nat.le_refl _, fun x y => by show (x == y) = true ↔ x = y; simp⟩
instance : EqE 0 eB := ⟨fun _ => rfl, fun _ => Nat.le_refl _, fun x y => by show (x == y) = true ↔ x = y; simp⟩
instance : EqE 0 eU := ⟨fun _ => rfl, fun _ => Nat.le_refl _, fun x y => ⟨fun _ => rfl, fun _ => rfl⟩⟩
instance : NnE eI := ⟨fun _ => rfl⟩
instance : NnE eB := ⟨fun _ => rfl⟩
instance : NnE eS := ⟨fun _ => rfl⟩
theorem pys_e (e : α → Dt) (xs : List α) : pys (xs.map e) = xs.map fun x => (e x).py := by rw [pys_map, List.map_map]; rfl
theorem layAll {e : α → Dt} (h : ∀ x, (e x).py.canLay0 = true) : ∀ xs : List α, PyData.canLayAll0 (xs.map fun x => (e x).py) = true
  | [] => rfl
  | x :: xs => by rw [List.map_cons, PyData.canLayAll0, h, layAll h xs]; rfl
theorem depAll {e : α → Dt} {n : Nat} (h : ∀ x, (e x).py.depth ≤ n) : ∀ xs : List α, PyData.depthAll (xs.map fun x => (e x).py) ≤ n
  | [] => Nat.zero_le _
  | x :: xs => by rw [List.map_cons, PyData.depthAll]; exact Nat.max_le.mpr ⟨h x, depAll h xs⟩
theorem eqvAll {e : α → Dt} (h : ∀ x y, PyData.eqv (e x).py (e y).py = true ↔ x = y) : ∀ xs ys : List α, PyData.eqvAll (xs.map fun x => (e x).py) (ys.map fun x => (e x).py) = true ↔ xs = ys
  | [], [] => ⟨fun _ => rfl, fun _ => rfl⟩
  | [], _ :: _ => ⟨fun z => (nomatch z), fun z => (nomatch z)⟩
  | _ :: _, [] => ⟨fun z => (nomatch z), fun z => (nomatch z)⟩
  | x :: a, y :: b => by
    rw [List.map_cons, List.map_cons, PyData.eqvAll, Bool.and_eq_true, h, eqvAll h a b, List.cons.injEq]
instance {n : Nat} {e : α → Dt} [i : EqE n e] : EqE (n + 1) (eT e) := ⟨fun xs => by show PyData.canLay0 (.tuple (pys (xs.map e))) = true; rw [pys_e, PyData.canLay0, layAll i.lay], fun xs => by
  show PyData.depth (.tuple (pys (xs.map e))) ≤ n + 1
  rw [pys_e, PyData.depth]
  have := depAll i.dep xs
  omega, fun xs ys => by
  show PyData.eqv (.tuple (pys (xs.map e))) (.tuple (pys (ys.map e))) = true ↔ _
  rw [pys_e, pys_e, PyData.eqv, eqvAll i.inj]⟩
instance {n : Nat} {e : α → Dt} [i : EqE n e] : EqE (n + 1) (eL e) := ⟨fun xs => by show PyData.canLay0 (.list (pys (xs.map e))) = true; rw [pys_e, PyData.canLay0, layAll i.lay], fun xs => by
  show PyData.depth (.list (pys (xs.map e))) ≤ n + 1
  rw [pys_e, PyData.depth]
  have := depAll i.dep xs
  omega, fun xs ys => by
  show PyData.eqv (.list (pys (xs.map e))) (.list (pys (ys.map e))) = true ↔ _
  rw [pys_e, pys_e, PyData.eqv, eqvAll i.inj]⟩
instance {e : α → Dt} : NnE (eT e) := ⟨fun _ => rfl⟩
instance {e : α → Dt} : NnE (eL e) := ⟨fun _ => rfl⟩
instance {a : α → Dt} {b : β → Dt} : NnE (e2 a b) := ⟨fun _ => rfl⟩
instance {n m : Nat} {a : α → Dt} {b : β → Dt} [i : EqE n a] [j : EqE m b] : EqE (n + m + 1) (e2 a b) := ⟨fun p => by
  show PyData.canLay0 (.tuple [(a p.1).py, (b p.2).py]) = true
  rw [PyData.canLay0, PyData.canLayAll0, PyData.canLayAll0, i.lay, j.lay]; rfl, fun p => by
  show PyData.depth (.tuple [(a p.1).py, (b p.2).py]) ≤ _
  rw [PyData.depth, PyData.depthAll, PyData.depthAll, PyData.depthAll]
  have := i.dep p.1
  have := j.dep p.2
  omega, fun p q => by
  show PyData.eqv (.tuple [(a p.1).py, (b p.2).py]) (.tuple [(a q.1).py, (b q.2).py]) = true ↔ _
  rw [PyData.eqv, PyData.eqvAll, PyData.eqvAll, PyData.eqvAll, Bool.and_true, Bool.and_eq_true, i.inj, j.inj]
  obtain ⟨p1, p2⟩ := p
  obtain ⟨q1, q2⟩ := q
  simp⟩
theorem okE {n : Nat} {e : α → Dt} [i : EqE n e] (h : n ≤ 64) (x : α) : okD (e x) = true := by
  unfold okD SeqAt.shaped
  rw [i.lay, decide_eq_true (Nat.le_trans (i.dep x) h)]
  rfl
theorem eqE {n : Nat} {e : α → Dt} [i : EqE n e] (x y : α) {ii : Decidable (x = y)} : PyData.eqv (e x).py (e y).py = @decide (x = y) ii := by
  by_cases h : x = y
  · rw [decide_eq_true h]; exact (i.inj x y).mpr h
  · rw [decide_eq_false h]; exact Bool.eq_false_iff.mpr fun z => h ((i.inj x y).mp z)
/-! ### values of slots -/
theorem elemsL_l {e : α → Dt} {xs : List α} : elemsL (sF (eL e) xs) = some (xs.map e) := rfl
theorem elemsL_o {e : α → Dt} {xs : List α} : elemsL (sL (sF e) xs) = some (xs.map e) := by
  show allFz (xs.map fun x => Sv.fz (e x)) = _
  have := allFz_map (xs.map e)
  rw [List.map_map] at this
  exact this
theorem dt_f {e : α → Dt} {x : α} : datOf (sF e x) = some (e x) := rfl
theorem dt_o {e : α → Dt} {xs : List α} : datOf (sL (sF e) xs) = some (eL e xs) := by
  show (allFz (xs.map fun x => Sv.fz (e x))).map Dt.lst = _
  have := allFz_map (xs.map e)
  rw [List.map_map] at this
  have h2 : allFz (xs.map fun x => Sv.fz (e x)) = some (xs.map e) := this
  rw [h2]
  rfl
theorem fr_f {e : α → Dt} {x : α} : (sF e x).frz = e x := rfl
theorem fr_l {s : α → Sv} {e : α → Dt} (h : ∀ x, (s x).frz = e x) {xs : List α} : (sL s xs).frz = eL e xs := by
  show Dt.lst (frzs (xs.map s)) = Dt.lst (xs.map e)
  congr 1
  induction xs with
  | nil => rfl
  | cons a r ih => rw [List.map_cons, List.map_cons, frzs, ih, h]
theorem fr_o {s : α → Sv} {e : α → Dt} (h : ∀ x, (s x).frz = e x) {x : Option α} : (sO s x).frz = eO e x := by
  cases x with
  | none => rfl
  | some x => exact h x
theorem fr_ol {e : α → Dt} {xs : List α} : (sL (sF e) xs).frz = eL e xs := fr_l fun _ => rfl
/-! ### what is walked -/
theorem it_t {e : α → Dt} {xs : List α} : one elems [sF (eT e) xs] = some (xs.map e) := rfl
theorem it_l {e : α → Dt} {xs : List α} : one elems [sF (eL e) xs] = some (xs.map e) := rfl
theorem it_o {e : α → Dt} {xs : List α} : one elems [sL (sF e) xs] = some (xs.map e) := elemsL_o
theorem rangeD_e (lo : Int) (n : Nat) : rangeD lo n = (rgL lo n).map eI := by
  unfold rangeD rgL
  rw [List.map_map]
  rfl
theorem it_r1 {j : Int} (h : small62 j = true) : gR1 [sF eI j] = some ((rgL 0 j.toNat).map eI) := by
  show (if small62 j then some (rangeD 0 j.toNat) else none) = _
  rw [if_pos h, rangeD_e]
theorem it_r2 {i j : Int} (hi : small62 i = true) (h : small62 j = true) : gR2 [sF eI i, sF eI j] = some ((rgL i (j - i).toNat).map eI) := by
  show (if small62 i && small62 j then some (rangeD i (j - i).toNat) else none) = _
  rw [hi, h]
  simp only [Bool.and_self, if_true]
  rw [rangeD_e]
theorem enumD_e {e : α → Dt} (xs : List α) : enumD (xs.map e) = (enumL xs).map (e2 eI e) := by
  unfold enumD enumL
  apply List.ext_getElem
  · simp
  · intro i h1 h2
    simp at h1
    simp [e2, h1]
theorem it_el {e : α → Dt} {xs : List α} : gEnum [sF (eL e) xs] = some ((enumL xs).map (e2 eI e)) := by
  show (some (xs.map e)).map enumD = _
  rw [Option.map_some, enumD_e]
theorem it_eo {e : α → Dt} {xs : List α} : gEnum [sL (sF e) xs] = some ((enumL xs).map (e2 eI e)) := by
  show (elemsL (sL (sF e) xs)).map enumD = _
  rw [elemsL_o, Option.map_some, enumD_e]
theorem it_rl {e : α → Dt} {xs : List α} : gRev [sF (eL e) xs] = some (xs.reverse.map e) := by
  show (some (xs.map e)).map List.reverse = _
  rw [Option.map_some, List.map_reverse]
theorem it_ro {e : α → Dt} {xs : List α} : gRev [sL (sF e) xs] = some (xs.reverse.map e) := by
  show (elemsL (sL (sF e) xs)).map List.reverse = _
  rw [elemsL_o, Option.map_some, List.map_reverse]
/-! ### numbers -/
variable {i j : Int}
theorem g_add : gAdd [sF eI i, sF eI j] = some (sF eI (i + j), [sF eI i, sF eI j]) := rfl
theorem g_sub : gSub [sF eI i, sF eI j] = some (sF eI (i - j), [sF eI i, sF eI j]) := rfl
theorem g_i2 {p : Int → Int → Bool} {f : Int → Int → Dt} (h : p i j = true) : keep2 (i2 p f) [sF eI i, sF eI j] = some (.fz (f i j), [sF eI i, sF eI j]) := by
  show (if p i j then some (Sv.fz (f i j)) else none).map _ = _
  rw [if_pos h]
  rfl
theorem g_mul (h : pMul i j = true) : gMul [sF eI i, sF eI j] = some (sF eI (i * j), [sF eI i, sF eI j]) := g_i2 (f := fun i j => .int (i * j)) h
theorem g_div (h : pDiv i j = true) : gDiv [sF eI i, sF eI j] = some (sF eI (i.fdiv j), [sF eI i, sF eI j]) := g_i2 (f := fun i j => .int (i.fdiv j)) h
theorem g_mod (h : pMod i j = true) : gMod [sF eI i, sF eI j] = some (sF eI (i.fmod j), [sF eI i, sF eI j]) := g_i2 (f := fun i j => .int (i.fmod j)) h
theorem g_pow (h : pPow i j = true) : gPow [sF eI i, sF eI j] = some (sF eI (i ^ j.toNat), [sF eI i, sF eI j]) := g_i2 (f := fun i j => .int (i ^ j.toNat)) h
theorem g_shl (h : pPow i j = true) : gShl [sF eI i, sF eI j] = some (sF eI (i * 2 ^ j.toNat), [sF eI i, sF eI j]) := g_i2 (f := fun i j => .int (i * 2 ^ j.toNat)) h
theorem g_shr (h : pShr i j = true) : gShr [sF eI i, sF eI j] = some (sF eI (i / 2 ^ j.toNat), [sF eI i, sF eI j]) := g_i2 (f := fun i j => .int (i / 2 ^ j.toNat)) h
theorem g_and : gAnd [sF eI i, sF eI j] = some (sF eI (Builtin.bitAnd i j), [sF eI i, sF eI j]) := rfl
theorem g_or : gOr [sF eI i, sF eI j] = some (sF eI (Builtin.bitOr i j), [sF eI i, sF eI j]) := rfl
theorem g_xor : gXor [sF eI i, sF eI j] = some (sF eI (Builtin.bitXor i j), [sF eI i, sF eI j]) := rfl
theorem g_lt : gLt [sF eI i, sF eI j] = some (sF eB (decide (i < j)), [sF eI i, sF eI j]) := rfl
theorem g_le : gLe [sF eI i, sF eI j] = some (sF eB (decide (i ≤ j)), [sF eI i, sF eI j]) := rfl
theorem g_gt : gGt [sF eI i, sF eI j] = some (sF eB (decide (j < i)), [sF eI i, sF eI j]) := rfl
theorem g_ge : gGe [sF eI i, sF eI j] = some (sF eB (decide (j ≤ i)), [sF eI i, sF eI j]) := rfl
def max2 (i j : Int) : Int := if j > i then j else i
def min2 (i j : Int) : Int := if j < i then j else i
theorem g_max2 : gMax2 [sF eI i, sF eI j] = some (sF eI (max2 i j), [sF eI i, sF eI j]) := rfl
theorem g_min2 : gMin2 [sF eI i, sF eI j] = some (sF eI (min2 i j), [sF eI i, sF eI j]) := rfl
theorem g_neg : gNeg [sF eI i] = some (sF eI (-i), [sF eI i]) := rfl
def absI (i : Int) : Int := if i < 0 then -i else i
theorem g_abs : gAbs [sF eI i] = some (sF eI (absI i), [sF eI i]) := rfl
theorem g_int : gInt [sF eI i] = some (sF eI i, [sF eI i]) := rfl
theorem pm_r (h : -(2 ^ 64) < j ∧ j < 2 ^ 64) : pMul i j = true := decide_eq_true (.inr h)
theorem pm_l (h : -(2 ^ 64) < i ∧ i < 2 ^ 64) : pMul i j = true := decide_eq_true (.inl h)
/-! ### comparing -/
theorem g_eq {n : Nat} {e : α → Dt} [EqE n e] {s t : Sv} {x y : α} {ii : Decidable (x = y)} (hs : datOf s = some (e x)) (ht : datOf t = some (e y)) (hn : n ≤ 64) : gEq [s, t] = some (sF eB (@decide (x = y) ii), [s, t]) := by
  show (cmp2 eqD s t).map _ = _
  unfold cmp2
  rw [hs, ht]
  simp only [Option.bind_some]
  unfold eqD
  rw [okE hn x, okE hn y, eqE]
  rfl
theorem g_ne {n : Nat} {e : α → Dt} [EqE n e] {s t : Sv} {x y : α} {ii : Decidable (x = y)} (hs : datOf s = some (e x)) (ht : datOf t = some (e y)) (hn : n ≤ 64) : gNe [s, t] = some (sF eB (!@decide (x = y) ii), [s, t]) := by
  show (cmp2 neD s t).map _ = _
  unfold cmp2
  rw [hs, ht]
  simp only [Option.bind_some]
  unfold neD
  rw [okE hn x, okE hn y, eqE]
  rfl
theorem any_e {n : Nat} {e : α → Dt} [EqE n e] (x : α) (xs : List α) : ((pys (xs.map e)).any fun z => PyData.eqv z (e x).py) = true ↔ x ∈ xs := by
  rw [pys_e, List.any_map, List.any_eq_true]
  constructor
  · rintro ⟨a, ha, h⟩
    rw [← (EqE.inj (e := e) a x).mp h]
    exact ha
  · exact fun h => ⟨x, h, (EqE.inj (e := e) x x).mpr rfl⟩
theorem dec_of {b : Bool} {p : Prop} {ii : Decidable p} (h : b = true ↔ p) : b = @decide p ii := by
  cases b with
  | true => exact (decide_eq_true (h.mp rfl)).symm
  | false => exact (decide_eq_false fun z => nomatch h.mpr z).symm
theorem in_e {n m : Nat} {e : α → Dt} [EqE n e] [EqE m (eL e)] {x : α} {xs : List α} {ii : Decidable (x ∈ xs)} (hn : n ≤ 64) (hm : m ≤ 64) : inD (e x) (eL e xs) = some (@decide (x ∈ xs) ii) := by
  show (if okD (e x) && okD (eL e xs) then some _ else none) = _
  rw [okE hn x, okE hm xs, dec_of (any_e x xs)]
  rfl
theorem in_et {n m : Nat} {e : α → Dt} [EqE n e] [EqE m (eT e)] {x : α} {xs : List α} {ii : Decidable (x ∈ xs)} (hn : n ≤ 64) (hm : m ≤ 64) : inD (e x) (eT e xs) = some (@decide (x ∈ xs) ii) := by
  show (if okD (e x) && okD (eT e xs) then some _ else none) = _
  rw [okE hn x, okE hm xs, dec_of (any_e x xs)]
  rfl
theorem g_in {s t : Sv} {d f : Dt} {b : Bool} (hs : datOf s = some d) (ht : datOf t = some f) (h : inD d f = some b) : gIn [s, t] = some (sF eB b, [s, t]) := by
  show (cmp2 inD s t).map _ = _
  unfold cmp2
  rw [hs, ht]
  simp only [Option.bind_some]
  rw [h]
  rfl
theorem g_ni {s t : Sv} {d f : Dt} {b : Bool} (hs : datOf s = some d) (ht : datOf t = some f) (h : inD d f = some b) : gNotIn [s, t] = some (sF eB (!b), [s, t]) := by
  show (cmp2 (fun d e => (inD d e).map (!·)) s t).map _ = _
  unfold cmp2
  rw [hs, ht]
  simp only [Option.bind_some]
  rw [h]
  rfl
theorem nn_o {s : α → Sv} (h : ∀ x, isNonS (s x) = false) {o : Option α} : isNonS (sO s o) = o.isNone := by
  cases o with
  | none => rfl
  | some x => exact h x
theorem nn_eo {e : α → Dt} (h : ∀ x, isNonS (.fz (e x)) = false) {o : Option α} : isNonS (sF (eO e) o) = o.isNone := by
  cases o with
  | none => rfl
  | some x => exact h x
theorem g_is {s : Sv} {b : Bool} (h : isNonS s = b) : gIsN [s, .fz .non] = some (sF eB b, [s, .fz .non]) := by subst h; rfl
theorem g_isnot {s : Sv} {b : Bool} (h : isNonS s = b) : gNotN [s, .fz .non] = some (sF eB (!b), [s, .fz .non]) := by subst h; rfl
noncomputable instance decDt : DecidableEq Dt := fun a b => Classical.propDecidable (a = b)
theorem g_isb {a b : Bool} {ii : Decidable (a = b)} : gIsB [sF eB a, sF eB b] = some (sF eB (@decide (a = b) ii), [sF eB a, sF eB b]) := by
  have e : ii = instDecidableEqBool a b := Subsingleton.elim _ _
  subst e
  rfl
theorem g_notb {a b : Bool} {ii : Decidable (a = b)} : gNotB [sF eB a, sF eB b] = some (sF eB (!@decide (a = b) ii), [sF eB a, sF eB b]) := by
  have e : ii = instDecidableEqBool a b := Subsingleton.elim _ _
  subst e
  rfl
/-! ### lists, tuples -/
variable {e : α → Dt} {xs ys : List α}
theorem g_len_t : gLen [sF (eT e) xs] = some (sF eI (xs.length : Int), [sF (eT e) xs]) := by show some (Sv.fz (.int (xs.map e).length), _) = _; rw [List.length_map]
theorem g_len_l : gLen [sF (eL e) xs] = some (sF eI (xs.length : Int), [sF (eL e) xs]) := by show some (Sv.fz (.int (xs.map e).length), _) = _; rw [List.length_map]
theorem g_len_o {s : α → Sv} : gLen [sL s xs] = some (sF eI (xs.length : Int), [sL s xs]) := by show some (Sv.fz (.int (xs.map s).length), _) = _; rw [List.length_map]
theorem atI_map {f : α → β} : atI (xs.map f) i = (atI xs i).map f := by
  unfold atI
  rw [List.length_map]
  cases ixN xs.length i with
  | none => rfl
  | some k => exact List.getElem?_map ..
theorem g_ix_t {v : α} (h : atI xs i = some v) : gIx [sF (eT e) xs, sF eI i] = some (sF e v, [sF (eT e) xs, sF eI i]) := by
  show ((atI (xs.map e) i).map Sv.fz).map _ = _
  rw [atI_map, h]
  rfl
theorem g_ix_l {v : α} (h : atI xs i = some v) : gIx [sF (eL e) xs, sF eI i] = some (sF e v, [sF (eL e) xs, sF eI i]) := by
  show ((atI (xs.map e) i).map Sv.fz).map _ = _
  rw [atI_map, h]
  rfl
theorem g_ix_o {v : α} (h : atI xs i = some v) : gIx [sL (sF e) xs, sF eI i] = some (sF e v, [sL (sF e) xs, sF eI i]) := by
  show ((elemsL (sL (sF e) xs)).bind fun ds => (atI ds i).map Sv.fz).map _ = _
  rw [elemsL_o]
  show ((atI (xs.map e) i).map Sv.fz).map _ = _
  rw [atI_map, h]
  rfl
/-- a place of a tuple of known length -/
theorem g_ix_c {ds : List Dt} {d : Dt} (h : atI ds i = some d) : gIx [.fz (.tup ds), sF eI i] = some (.fz d, [.fz (.tup ds), sF eI i]) := by
  show ((atI ds i).map Sv.fz).map _ = _
  rw [h]
  rfl
theorem g_add_t {r : List α} (h : capO (xs ++ ys) = some r) : gAdd [sF (eT e) xs, sF (eT e) ys] = some (sF (eT e) r, [sF (eT e) xs, sF (eT e) ys]) := by
  obtain ⟨h1, rfl⟩ := capO_some h
  rw [List.length_append] at h1
  show (if (xs.map e).length + (ys.map e).length ≤ sizeLine then some (Sv.fz (.tup (xs.map e ++ ys.map e))) else none).map _ = _
  rw [List.length_map, List.length_map, if_pos (Nat.le_trans h1 line24), ← List.map_append]
  rfl
theorem map_fz (e : α → Dt) (xs : List α) : (xs.map e).map Sv.fz = xs.map (sF e) := by rw [List.map_map]; rfl
theorem g_add_l {s t : Sv} {r : List α} (hs : elemsL s = some (xs.map e)) (ht : elemsL t = some (ys.map e)) (h : capO (xs ++ ys) = some r) : gAdd [s, t] = some (sL (sF e) r, [s, t]) := by
  obtain ⟨h1, rfl⟩ := capO_some h
  rw [List.length_append] at h1
  have e1 : addS s t = some (sL (sF e) (xs ++ ys)) := by
    unfold addS
    split
    · cases hs
    · cases hs
    · cases hs
    · rw [hs, ht]
      simp only [Option.bind_some]
      rw [List.length_map, List.length_map, if_pos (Nat.le_trans h1 line24), ← List.map_append, map_fz]
  show (addS s t).map _ = _
  rw [e1]
  rfl
theorem g_app {x : α} {r : List α} (h : capO (xs ++ [x]) = some r) : gApp [sL (sF e) xs, sF e x] = some (.fz .non, [sL (sF e) r, sF e x]) := by
  obtain ⟨h1, rfl⟩ := capO_some h
  rw [List.length_append] at h1
  show (if (xs.map (sF e)).length < 16777216 then some (Sv.fz .non, [Sv.lst (xs.map (sF e) ++ [.fz (e x)]), .fz (e x)]) else none) = _
  rw [List.length_map, if_pos (by simp at h1; omega)]
  show _ = some (Sv.fz .non, [Sv.lst ((xs ++ [x]).map (sF e)), _])
  rw [List.map_append]
  rfl
theorem g_pop {v : α} (s : α → Sv) (h : xs.getLast? = some v) : gPop [sL s xs] = some (s v, [sL s xs.dropLast]) := by
  show (match (xs.map s).getLast? with | some w => some (w, [Sv.lst (xs.map s).dropLast]) | none => none) = _
  rw [List.getLast?_map, h, ← List.map_dropLast]
  rfl
theorem g_rvs {s : α → Sv} : gRvs [sL s xs] = some (.fz .non, [sL s xs.reverse]) := by
  show some (Sv.fz .non, [Sv.lst (xs.map s).reverse]) = _
  rw [← List.map_reverse]
theorem g_list_t : gList [sF (eT e) xs] = some (sL (sF e) xs, [sF (eT e) xs]) := by show some (Sv.lst ((xs.map e).map .fz), _) = _; rw [map_fz]
theorem g_list_l : gList [sF (eL e) xs] = some (sL (sF e) xs, [sF (eL e) xs]) := by show some (Sv.lst ((xs.map e).map .fz), _) = _; rw [map_fz]
theorem g_list_o : gList [sL (sF e) xs] = some (sL (sF e) xs, [sL (sF e) xs]) := by
  show ((elemsL (sL (sF e) xs)).map fun ds => Sv.lst (ds.map .fz)).map _ = _
  rw [elemsL_o, Option.map_some, map_fz]
  rfl
theorem g_tup_t : gTuple [sF (eT e) xs] = some (sF (eT e) xs, [sF (eT e) xs]) := rfl
theorem g_tup_l : gTuple [sF (eL e) xs] = some (sF (eT e) xs, [sF (eL e) xs]) := rfl
theorem g_tup_o : gTuple [sL (sF e) xs] = some (sF (eT e) xs, [sL (sF e) xs]) := by
  show ((elemsL (sL (sF e) xs)).map fun ds => Sv.fz (.tup ds)).map _ = _
  rw [elemsL_o]
  rfl
theorem g_lrev {s : Sv} (hs : elemsL s = some (xs.map e)) : gLstRev [s] = some (sL (sF e) xs.reverse, [s]) := by
  show ((elemsL s).map fun ds => Sv.lst (ds.reverse.map .fz)).map _ = _
  rw [hs, Option.map_some, ← List.map_reverse, map_fz]
  rfl
theorem g_lrg (h : small24 i = true) : gLRg [sF eI i] = some (sL (sF eI) (rgI i), [sF eI i]) := by
  show (if small24 i then some (Sv.lst ((rgI i).map fun i => .fz (.int i))) else none).map _ = _
  rw [if_pos h]
  rfl
theorem g_trg (h : small24 i = true) : gTRg [sF eI i] = some (sF (eT eI) (rgI i), [sF eI i]) := by
  show (if small24 i then some (Sv.fz (.tup ((rgI i).map .int))) else none).map _ = _
  rw [if_pos h]
  rfl
theorem cutL_map {f : α → β} {lo hi : Option Int} : cutL (xs.map f) lo hi = (cutL xs lo hi).map f := by
  unfold cutL
  rw [List.length_map, List.map_take, List.map_drop]
/-! ### of ints, of bools -/
variable {ns : List Int} {bs : List Bool}
theorem ints_of {s : Sv} (hs : elemsL s = some (ns.map eI)) : intsS s = some ns := by
  unfold intsS
  rw [hs]
  exact intsOf_map ns
theorem bls_of {s : Sv} (hs : elemsL s = some (bs.map eB)) : blsS s = some bs := by
  unfold blsS
  rw [hs]
  exact blsOf_map bs
theorem g_sum {s : Sv} (hs : elemsL s = some (ns.map eI)) : gSum [s] = some (sF eI ns.sum, [s]) := by
  show ((intsS s).map fun ns => Sv.fz (.int ns.sum)).map _ = _
  rw [ints_of hs]
  rfl
theorem g_all {s : Sv} (hs : elemsL s = some (bs.map eB)) : gAll [s] = some (sF eB (bs.all id), [s]) := by
  show ((blsS s).map fun ns => Sv.fz (.bl (ns.all id))).map _ = _
  rw [bls_of hs]
  rfl
theorem g_any {s : Sv} (hs : elemsL s = some (bs.map eB)) : gAny [s] = some (sF eB (bs.any id), [s]) := by
  show ((blsS s).map fun ns => Sv.fz (.bl (ns.any id))).map _ = _
  rw [bls_of hs]
  rfl
theorem elemsLT_of {e : α → Dt} {xs : List α} {s : Sv} (hs : elemsL s = some (xs.map e)) : elemsLT s = some (xs.map e) := by
  unfold elemsLT
  split
  · cases hs
  · exact hs
theorem elemsLT_t {e : α → Dt} {xs : List α} : elemsLT (sF (eT e) xs) = some (xs.map e) := rfl
theorem elemsLT_l {e : α → Dt} {xs : List α} : elemsLT (sF (eL e) xs) = some (xs.map e) := rfl
theorem elemsLT_o {e : α → Dt} {xs : List α} : elemsLT (sL (sF e) xs) = some (xs.map e) := elemsLT_of elemsL_o
theorem g_max {s : Sv} (hs : elemsLT s = some (ns.map eI)) (h : (!ns.isEmpty) = true) : gMaxX [s] = some (sF eI (maxI ns), [s]) := by
  show ((intsX s).bind fun ns => if ns.isEmpty then none else some (Sv.fz (.int (maxI ns)))).map _ = _
  unfold intsX
  rw [hs]
  simp only [Option.bind_some, intsOf_map]
  rw [if_neg (by simpa using h)]
  rfl
theorem g_min {s : Sv} (hs : elemsLT s = some (ns.map eI)) (h : (!ns.isEmpty) = true) : gMinX [s] = some (sF eI (minI ns), [s]) := by
  show ((intsX s).bind fun ns => if ns.isEmpty then none else some (Sv.fz (.int (minI ns)))).map _ = _
  unfold intsX
  rw [hs]
  simp only [Option.bind_some, intsOf_map]
  rw [if_neg (by simpa using h)]
  rfl
theorem g_srt_i {rev : Bool} {s : Sv} (hs : datOf s = some (eL eI ns)) : gSorted rev [s] = some (sL (sF eI) (srtI rev ns), [s]) := by
  have h := sorted_ints rev ns
  unfold gSorted keep1 at h ⊢
  simp only at h ⊢
  rw [datOf_Dr] at h
  rw [hs]
  simp only at h ⊢
  have e1 : (if (PyData.canLayAll0 (pys (List.map Dt.int ns)) && sortableB (pys (List.map Dt.int ns))) = true then some (Sv.lst ((srtD rev (List.map Dt.int ns)).map .fz)) else none) = some (Dr (srtI rev ns)) := by
    revert h
    generalize (if (PyData.canLayAll0 (pys (List.map Dt.int ns)) && sortableB (pys (List.map Dt.int ns))) = true then some (Sv.lst ((srtD rev (List.map Dt.int ns)).map .fz)) else none) = o
    intro h
    cases o with
    | none => cases h
    | some w => cases h; rfl
  show (if (PyData.canLayAll0 (pys (List.map Dt.int ns)) && sortableB (pys (List.map Dt.int ns))) = true then some (Sv.lst ((srtD rev (List.map Dt.int ns)).map .fz)) else none).map _ = _
  rw [e1]
  rfl
/-- sorted of tuples: none empty, or at most one -/
def srt1B (xs : List (List Int)) : Bool := xs.all (fun x => !x.isEmpty) || decide (xs.length ≤ 1)
theorem srt1_ofB {xs : List (List Int)} (h : srt1B xs = true) : Srt1 xs := by
  unfold srt1B at h
  simp only [Bool.or_eq_true, List.all_eq_true, decide_eq_true_eq] at h
  rcases h with h | h
  · exact .inl fun x hx z => by have := h x hx; rw [z] at this; cases this
  · exact .inr h
theorem g_srt_t {s : Sv} {xs : List (List Int)} (hs : datOf s = some (eL (eT eI) xs)) (h1 : srt1B xs = true) : gSorted false [s] = some (sL (sF (eT eI)) (srtT xs), [s]) := by
  have h := sorted_T (srt1_ofB h1)
  unfold gSorted keep1 at h ⊢
  simp only at h ⊢
  rw [datOf_DT] at h
  rw [hs]
  simp only at h ⊢
  have e1 : (if (PyData.canLayAll0 (pys (List.map T xs)) && sortableB (pys (List.map T xs))) = true then some (Sv.lst ((srtD false (List.map T xs)).map .fz)) else none) = some (DT (srtT xs)) := by
    revert h
    generalize (if (PyData.canLayAll0 (pys (List.map T xs)) && sortableB (pys (List.map T xs))) = true then some (Sv.lst ((srtD false (List.map T xs)).map .fz)) else none) = o
    intro h
    cases o with
    | none => cases h
    | some w => cases h; rfl
  show (if (PyData.canLayAll0 (pys (List.map T xs)) && sortableB (pys (List.map T xs))) = true then some (Sv.lst ((srtD false (List.map T xs)).map .fz)) else none).map _ = _
  rw [e1]
  rfl
theorem g_sset {s : Sv} (hs : elemsL s = some (ns.map eI)) (h : decide (ns.length < 64) = true) : gSortSet [s] = some (sL (sF eI) (uniq ns), [s]) := by
  show ((intsS s).bind fun ns => if ns.length < 64 then some (Sv.lst ((uniq ns).map fun i => .fz (.int i))) else none).map _ = _
  rw [ints_of hs]
  simp only [Option.bind_some]
  rw [if_pos (of_decide_eq_true h)]
  rfl
/-! ### given away -/
theorem addM {fa fb : Ex} {E E1 E2 : Env} {s : α → Sv} {r : List α} (h1 : fa E = .ok (.v (sL s xs), E1)) (h2 : fb E1 = .ok (.v (sL s ys), E2)) (h : capO (xs ++ ys) = some r) : eAddM fa fb E = .ok (.v (sL s r), E2) := by
  obtain ⟨h3, rfl⟩ := capO_some h
  rw [List.length_append] at h3
  unfold eAddM
  rw [h1]
  simp only [Res.bind]
  rw [h2]
  simp only
  rw [List.length_map, List.length_map, if_pos h3, ← List.map_append]
/-! ### truth -/
theorem tr_b {b : Bool} {E : Env} : truthA (.v (sF eB b)) E = some b := rfl
/-! ### data of any form -/
def frzO : Option Sv → Option Dt
  | some (.fz d) => some d
  | _ => none
def ixDt (d : Dt) (i : Int) : Option Dt := frzO (ixS (.fz d) (.fz (.int i)))
theorem g_ix_d {d v : Dt} (h : ixDt d i = some v) : gIx [.fz d, sF eI i] = some (.fz v, [.fz d, sF eI i]) := by
  unfold ixDt at h
  show (ixS (.fz d) (.fz (.int i))).map _ = _
  cases q : ixS (.fz d) (.fz (.int i)) with
  | none => rw [q] at h; cases h
  | some s =>
    rw [q] at h
    cases s with
    | fz d' => cases h; rfl
    | lst _ => cases h
    | ins _ _ _ => cases h
def lenDt (d : Dt) : Option Int := (lenS (.fz d)).map fun n => (n : Int)
theorem g_len_d {d : Dt} {n : Int} (h : lenDt d = some n) : gLen [.fz d] = some (sF eI n, [.fz d]) := by
  unfold lenDt at h
  show ((lenS (.fz d)).map fun n => Sv.fz (.int (n : Nat))).map _ = _
  cases q : lenS (.fz d) with
  | none => rw [q] at h; cases h
  | some m => rw [q] at h; cases h; rfl
theorem g_eq_d {s t : Sv} {d f : Dt} {b : Bool} (hs : datOf s = some d) (ht : datOf t = some f) (h : eqD d f = some b) : gEq [s, t] = some (sF eB b, [s, t]) := by
  show (cmp2 eqD s t).map _ = _
  unfold cmp2
  rw [hs, ht]
  simp only [Option.bind_some]
  rw [h]
  rfl
theorem g_ne_d {s t : Sv} {d f : Dt} {b : Bool} (hs : datOf s = some d) (ht : datOf t = some f) (h : neD d f = some b) : gNe [s, t] = some (sF eB b, [s, t]) := by
  show (cmp2 neD s t).map _ = _
  unfold cmp2
  rw [hs, ht]
  simp only [Option.bind_some]
  rw [h]
  rfl
def isNonD (d : Dt) : Bool := isNonS (.fz d)
def toI : Dt → Option Int
  | .int i => some i
  | _ => none
theorem toI_some {d : Dt} {i : Int} (h : toI d = some i) : d = .int i := by
  cases d <;> cases h
  rfl
theorem castI {f : Ex} {E E1 : Env} {d : Dt} {i : Int} (h : toI d = some i) (hf : f E = .ok (.v (.fz d), E1)) : f E = .ok (.v (sF eI i), E1) := by
  rw [hf, toI_some h]
/-! ### slices, stores -/
theorem pat_ok {f : Ex} {E E1 : Env} (h : f E = .ok (.v (sF eI i), E1)) : pAt f E = .ok (some i, E1) := by
  unfold pAt
  rw [h]
  rfl
theorem pno_ok {E : Env} : pNo E = .ok (none, E) := rfl
theorem sl_ok {fe : Ex} {pl ph : Px} {E E1 E2 E3 E4 E5 : Env} {a : Arg} {s r : Sv} {lo hi : Option Int} (h1 : fe E = .ok (a, E1)) (h2 : pl E1 = .ok (lo, E2)) (h3 : ph E2 = .ok (hi, E3)) (hs : slS s lo hi = some r) (h4 : takeA [a] E3 = some ([s], E4)) (h5 : putA [a] [some s] E4 = E5) : eSl fe pl ph E = .ok (.v r, E5) := by
  unfold eSl
  rw [h1]
  simp only [Res.bind]
  rw [h2]
  simp only
  rw [h3]
  simp only
  unfold finA
  rw [h4]
  simp only [keep1]
  rw [hs]
  simp only [Option.map_some, List.length_cons, List.length_nil, if_true, List.map_cons, List.map_nil]
  rw [h5]
theorem sl_t {lo hi : Option Int} : slS (sF (eT e) xs) lo hi = some (sF (eT e) (cutL xs lo hi)) := by
  show some (Sv.fz (.tup (cutL (xs.map e) lo hi))) = _
  rw [cutL_map]
theorem sl_l {lo hi : Option Int} : slS (sF (eL e) xs) lo hi = some (sL (sF e) (cutL xs lo hi)) := by
  show some (Sv.lst ((cutL (xs.map e) lo hi).map .fz)) = _
  rw [cutL_map, map_fz]
theorem sl_o {lo hi : Option Int} : slS (sL (sF e) xs) lo hi = some (sL (sF e) (cutL xs lo hi)) := by
  show (elemsL (sL (sF e) xs)).map (fun ds => Sv.lst ((cutL ds lo hi).map .fz)) = _
  rw [elemsL_o, Option.map_some, cutL_map, map_fz]
def setO (xs : List α) (i : Int) (v : α) : Option (List α) := (ixN xs.length i).map fun j => xs.set j v
theorem st_stI {xi : Nat} {fi f : Ex} {E E1 E2 E3 : Env} {st : α → Sv} {v : α} {r : List α} {y : Sv} (h1 : f E = .ok (.v (st v), E1)) (hy : E1[xi]? = some (some y)) (h2 : fi E1 = .ok (.v (sF eI i), E2)) (hx : E2[xi]? = some (some (sL st xs))) (h3 : setO xs i v = some r) (hE : E2.set xi (some (sL st r)) = E3) : sStI xi fi f E = .next E3 := by
  unfold setO at h3
  obtain ⟨j, hj, rfl⟩ := Option.map_eq_some_iff.mp h3
  unfold sStI ofE
  rw [h1]
  simp only
  rw [hy]
  simp only
  rw [h2]
  simp only
  unfold kStI
  simp only
  rw [hx]
  simp only
  rw [List.length_map, hj]
  simp only
  have e : (xs.map st).set j (st v) = (xs.set j v).map st := List.map_set.symm
  rw [← hE, e]
theorem g_isi {s : Sv} {T t : String} (h : tyS s = some t) : gIsi T [s] = some (sF eB (subT t T), [s]) := by
  show ((tyS s).map fun t => Sv.fz (.bl (subT t T))).map _ = _
  rw [h]
  rfl
def elDt (d : Dt) : Option (List Dt) := elemsLT (.fz d)
theorem map_eD (ds : List Dt) : ds.map (sF eD) = ds.map Sv.fz := rfl
theorem g_list_d {d : Dt} {ds : List Dt} (h : elDt d = some ds) : gList [.fz d] = some (sL (sF eD) ds, [.fz d]) := by
  show ((elemsLT (.fz d)).map fun ds => Sv.lst (ds.map .fz)).map _ = _
  unfold elDt at h
  rw [h]
  rfl
end
end Fw
set_option Elab.async false
set_option linter.all false
set_option maxRecDepth 100000
set_option maxHeartbeats 1000000
/-! The laws' own comparison: the same value of the same kind. Two forms: N asks for None, O does not. -/
namespace Fw
open PySem PySem.Spec PyProof.Rows L2
noncomputable def lSame (self : Fn) : Stx :=
  (sIf (tNotX (tOf (eOwn self (aCons (eBin gIx (eRef 0) (eRef 2)) (aCons (eBin gIx (eRef 1) (eRef 2)) aNil))))) (sRet (eC (.bl false))) sNext)
noncomputable def hSame (self : Fn) : Stx :=
  (sIf (tOrX (tOf (eUn (gIsi "tuple") (eRef 1))) (tOf (eUn (gIsi "list") (eRef 1)))) (sSeq (sIf (tOrX (tBl (eBin gNe (eUn (gIsi "tuple") (eRef 1)) (eUn (gIsi "tuple") (eRef 0)))) (tBl (eBin gNe (eUn (gIsi "list") (eRef 1)) (eUn (gIsi "list") (eRef 0))))) (sRet (eC (.bl false))) sNext)
  (sSeq (sIf (tBl (eBin gNe (eCall gLen (aCons (eRef 0) aNil)) (eCall gLen (aCons (eRef 1) aNil)))) (sRet (eC (.bl false))) sNext)
  (sSeq (sFor (aCons (eCall gLen (aCons (eRef 1) aNil)) aNil) gR1 [true, true, false] (gNm 2)
  (lSame self))
  (sRet (eC (.bl true)))))) sNext)
noncomputable def kSame : Stx :=
  (sSeq (sIf (tBl (eBin gNe (eUn (gIsi "bool") (eRef 1)) (eUn (gIsi "bool") (eRef 0)))) (sRet (eC (.bl false))) sNext)
  (sSeq (sIf (tOrX (tBl (eBin gNe (eUn (gIsi "int") (eRef 1)) (eUn (gIsi "int") (eRef 0)))) (tBl (eBin gNe (eUn (gIsi "str") (eRef 1)) (eUn (gIsi "str") (eRef 0))))) (sRet (eC (.bl false))) sNext)
  (sRet (eBin gEq (eRef 0) (eRef 1)))))
noncomputable def nSame : Stx := (sIf (tOrX (tBl (eBin gIsN (eRef 1) (eC .non))) (tBl (eBin gIsN (eRef 0) (eC .non)))) (sRet (eAnd (eBin gIsN (eRef 1) (eC .non)) (eBin gIsN (eRef 0) (eC .non)))) sNext)
/-- N: with a question for None -/
noncomputable def bSame (nn : Bool) (self : Fn) : Stx := sSeq (hSame self) (if nn then sSeq nSame kSame else kSame)
noncomputable def fSame (nn : Bool) : Nat → Fn
  | 0 => fnSem 3 [true, true] fun _ => .bad
  | k + 1 => fnSem 3 [true, true] (bSame nn (fSame nn k))
abbrev rB (b : Bool) (s t : Sv) : Res (Sv × Env) := .ok (.fz (.bl b), [some s, some t])
section
variable {self : Fn} {s t : Sv} {ds fs : List Dt} {nn : Bool}
theorem isi_ok {T U : String} {i : Nat} {x : Sv} {E : Env} (hx : E[i]? = some (some x)) (h : tyS x = some U) : eUn (gIsi T) (eRef i) E = .ok (.v (.fz (.bl (subT U T))), E) := by
  have hset : (E.set i none).set i (some x) = E := by
    apply List.ext_getElem?
    intro j
    by_cases e : i = j
    · subst e; rw [List.getElem?_set_self (by rw [List.length_set]; exact (List.getElem?_eq_some_iff.mp hx).1), hx]
    · rw [List.getElem?_set_ne e, List.getElem?_set_ne e]
  refine un (a := .r i) (E1 := E) (E3 := E.set i none) (ss := [x]) (ss' := [x]) ?_ ?_ ?_ hset rfl
  · unfold eRef; rw [hx]
  · show ((tyS x).map fun t => Sv.fz (.bl (subT t T))).map _ = _
    rw [h]; rfl
  · simp [takeA, hx]
theorem forL_nx {g : Tgt} {body : Stx} {d : Dt} {ds : List Dt} {e e1 e2 : Env} (h1 : g d e = some e1) (h2 : body e1 = .next e2) : forL g body (d :: ds) e = forL g body ds e2 := by
  rw [forL, h1]
  simp only [h2]
theorem forL_rt {g : Tgt} {body : Stx} {d : Dt} {ds : List Dt} {e e1 e2 : Env} {s : Sv} (h1 : g d e = some e1) (h2 : body e1 = .ret s e2) : forL g body (d :: ds) e = .ret s e2 := by
  rw [forL, h1]
  simp only [h2]
/-- a test that fails, nothing else -/
theorem if_f0 {t : Tx} {a : Stx} {e e1 : Env} (h : t e = .ok (false, e1)) : sIf t a sNext e = .next e1 := if_f h
/-- the items one by one -/
theorem same_loop {bs : Nat → Bool} (hs : ∀ (i : Nat) d, ds[i]? = some d → ixS s (.fz (.int i)) = some (.fz d)) (ht : ∀ (i : Nat) d, fs[i]? = some d → ixS t (.fz (.int i)) = some (.fz d))
    (hself : ∀ (i : Nat) d f, ds[i]? = some d → fs[i]? = some f → self [.fz d, .fz f] = rB (bs i) (.fz d) (.fz f)) (hl : ds.length = fs.length) : ∀ (n m : Nat) (o : Option Sv), m + n = fs.length →
    (∃ o', forL (gNm 2) (lSame self) ((List.range' m n).map fun k : Nat => Dt.int (k : Int)) [some s, some t, o] = .next [some s, some t, o'] ∧ (List.range' m n).all bs = true) ∨
    (∃ o', forL (gNm 2) (lSame self) ((List.range' m n).map fun k : Nat => Dt.int (k : Int)) [some s, some t, o] = .ret (.fz (.bl false)) [some s, some t, o'] ∧ (List.range' m n).all bs = false)
  | 0, m, o, _ => .inl ⟨o, rfl, rfl⟩
  | n + 1, m, o, hm => by
    have hm1 : m < ds.length := by omega
    have hm2 : m < fs.length := by omega
    have e1 := hs m ds[m] (List.getElem?_eq_getElem hm1)
    have e2 := ht m fs[m] (List.getElem?_eq_getElem hm2)
    have e3 := hself m _ _ (List.getElem?_eq_getElem hm1) (List.getElem?_eq_getElem hm2)
    have g1 : gIx [s, .fz (.int (m : Int))] = some (.fz ds[m], [s, .fz (.int (m : Int))]) := by show (ixS s _).map _ = _; rw [e1]; rfl
    have g2 : gIx [t, .fz (.int (m : Int))] = some (.fz fs[m], [t, .fz (.int (m : Int))]) := by show (ixS t _).map _ = _; rw [e2]; rfl
    have b1 : tNotX (tOf (eOwn self (aCons (eBin gIx (eRef 0) (eRef 2)) (aCons (eBin gIx (eRef 1) (eRef 2)) aNil)))) [some s, some t, some (.fz (.int (m : Int)))] = .ok (!bs m, [some s, some t, some (.fz (.int (m : Int)))]) :=
      tnot (tof (x := bs m) (a := .v (.fz (.bl (bs m)))) (ow (as := [.v (.fz ds[m]), .v (.fz fs[m])]) (cons_ok (bn (a := .r 0) (b := .r 2) rfl rfl g1 rfl rfl rfl) (cons_ok (bn (a := .r 1) (b := .r 2) rfl rfl g2 rfl rfl rfl) rfl)) e3 rfl rfl) rfl)
    rw [List.range'_succ, List.map_cons, List.all_cons]
    have g3 : gNm 2 (Dt.int (m : Int)) [some s, some t, o] = some [some s, some t, some (.fz (.int (m : Int)))] := rfl
    cases hb : bs m with
    | true =>
      rw [hb] at b1
      have l1 : lSame self [some s, some t, some (.fz (.int (m : Int)))] = .next [some s, some t, some (.fz (.int (m : Int)))] := if_f0 b1
      rw [forL_nx g3 l1]
      simp only [Bool.true_and]
      exact same_loop hs ht hself hl n (m + 1) _ (by omega)
    | false =>
      rw [hb] at b1
      have l1 : lSame self [some s, some t, some (.fz (.int (m : Int)))] = .ret (.fz (.bl false)) [some s, some t, some (.fz (.int (m : Int)))] := (if_t b1).trans rfl
      rw [forL_rt g3 l1]
      simp only [Bool.false_and]
      exact .inr ⟨_, rfl, trivial⟩
theorem sub_tt {T : String} (hT : T = "tuple" ∨ T = "list") : (subT T "tuple" || subT T "list") = true := by rcases hT with rfl | rfl <;> decide
/-- both are sequences of one kind -/
theorem same_seq {T : String} {bs : Nat → Bool} (hT : T = "tuple" ∨ T = "list") (ts : tyS s = some T) (tt : tyS t = some T) (ls : lenS s = some ds.length) (lt : lenS t = some fs.length) (hz : small62 (fs.length : Int) = true)
    (hs : ∀ (i : Nat) d, ds[i]? = some d → ixS s (.fz (.int i)) = some (.fz d)) (ht : ∀ (i : Nat) d, fs[i]? = some d → ixS t (.fz (.int i)) = some (.fz d))
    (hself : ∀ (i : Nat) d f, ds[i]? = some d → fs[i]? = some f → self [.fz d, .fz f] = rB (bs i) (.fz d) (.fz f)) : fnSem 3 [true, true] (bSame nn self) [s, t] = rB (decide (ds.length = fs.length) && (List.range fs.length).all bs) s t := by
  have i1 : ∀ T', eUn (gIsi T') (eRef 1) [some s, some t, none] = .ok (.v (.fz (.bl (subT T T'))), [some s, some t, none]) := fun T' => isi_ok rfl tt
  have i0 : ∀ T', eUn (gIsi T') (eRef 0) [some s, some t, none] = .ok (.v (.fz (.bl (subT T T'))), [some s, some t, none]) := fun T' => isi_ok rfl ts
  have c1 : tOrX (tOf (eUn (gIsi "tuple") (eRef 1))) (tOf (eUn (gIsi "list") (eRef 1))) [some s, some t, none] = .ok (true, [some s, some t, none]) := by
    have := tor_t (tof (x := subT T "tuple") (i1 "tuple") rfl) (tof (x := subT T "list") (i1 "list") rfl)
    rw [sub_tt hT] at this
    exact this
  have ne : ∀ T', eBin gNe (eUn (gIsi T') (eRef 1)) (eUn (gIsi T') (eRef 0)) [some s, some t, none] = .ok (.v (.fz (.bl false)), [some s, some t, none]) := fun T' => by
    have := bn (i1 T') (i0 T') (g_ne (ii := inferInstance) (e := eB) (s := sF eB (subT T T')) (t := sF eB (subT T T')) dt_f dt_f (by decide)) rfl rfl rfl
    simpa using this
  have c2 : tOrX (tBl (eBin gNe (eUn (gIsi "tuple") (eRef 1)) (eUn (gIsi "tuple") (eRef 0)))) (tBl (eBin gNe (eUn (gIsi "list") (eRef 1)) (eUn (gIsi "list") (eRef 0)))) [some s, some t, none] = .ok (false, [some s, some t, none]) := tor_t (tb (ne _)) (tb (ne _))
  have l0 : eCall gLen (aCons (eRef 0) aNil) [some s, some t, none] = .ok (.v (sF eI (ds.length : Int)), [some s, some t, none]) := cl (as := [.r 0]) (ss := [s]) (ss' := [s]) (cons_ok rfl rfl) (by show ((lenS s).map _).map _ = _; rw [ls]; rfl) rfl rfl rfl
  have l1 : eCall gLen (aCons (eRef 1) aNil) [some s, some t, none] = .ok (.v (sF eI (fs.length : Int)), [some s, some t, none]) := cl (as := [.r 1]) (ss := [t]) (ss' := [t]) (cons_ok rfl rfl) (by show ((lenS t).map _).map _ = _; rw [lt]; rfl) rfl rfl rfl
  have c3 : tBl (eBin gNe (eCall gLen (aCons (eRef 0) aNil)) (eCall gLen (aCons (eRef 1) aNil))) [some s, some t, none] = .ok (!decide ((ds.length : Int) = (fs.length : Int)), [some s, some t, none]) := tb (bn l0 l1 (g_ne (ii := inferInstance) (e := eI) dt_f dt_f (by decide)) rfl rfl rfl)
  have main : ∃ o, bSame nn self [some s, some t, none] = .ret (.fz (.bl (decide (ds.length = fs.length) && (List.range fs.length).all bs))) [some s, some t, o] := by
    unfold bSame
    have up : ∀ (b : Bool) (o : Option Sv) (k : Stx), hSame self [some s, some t, none] = .ret (.fz (.bl b)) [some s, some t, o] → sSeq (hSame self) k [some s, some t, none] = .ret (.fz (.bl b)) [some s, some t, o] := fun b o k h => seq_ret h
    suffices h : ∃ o, hSame self [some s, some t, none] = .ret (.fz (.bl (decide (ds.length = fs.length) && (List.range fs.length).all bs))) [some s, some t, o] by
      obtain ⟨o, h⟩ := h
      exact ⟨o, up _ _ _ h⟩
    unfold hSame
    rw [if_t c1, seq_next (if_f0 c2)]
    by_cases hl : ds.length = fs.length
    · rw [decide_eq_true hl, Bool.true_and]
      have hl2 : (ds.length : Int) = (fs.length : Int) := by rw [hl]
      rw [decide_eq_true hl2] at c3
      rw [seq_next (if_f0 c3)]
      have e0 : (rgL 0 ((fs.length : Int)).toNat).map eI = (List.range' 0 fs.length).map fun k : Nat => Dt.int (k : Int) := by
        unfold rgL
        rw [Int.toNat_natCast, List.map_map, List.range_eq_range']
        apply List.map_congr_left
        intro k _
        show Dt.int (0 + (k : Int)) = _
        rw [Int.zero_add]
      have e1 : ∀ r, forL (gNm 2) (lSame self) ((List.range' 0 fs.length).map fun k : Nat => Dt.int (k : Int)) [some s, some t, none] = r → sFor (aCons (eCall gLen (aCons (eRef 1) aNil)) aNil) gR1 [true, true, false] (gNm 2) (lSame self) [some s, some t, none] = mapEnv (putA [.v (sF eI (fs.length : Int))] [some (sF eI (fs.length : Int))]) r := fun r hr => by
        have := for_eq (fA := aCons (eCall gLen (aCons (eRef 1) aNil)) aNil) (gI := gR1) (E := [some s, some t, none]) (body := lSame self) (g := gNm 2) (P' := [true, true, false]) (as := [.v (sF eI (fs.length : Int))]) (ss := [sF eI (fs.length : Int)]) (E1 := [some s, some t, none]) (E2 := [some s, some t, none]) (cons_ok l1 rfl) (it_r1 hz) rfl rfl
        rw [this, e0, hr]
        rfl
      rcases same_loop (bs := bs) hs ht hself hl fs.length 0 none (by omega) with ⟨o', h1, h2⟩ | ⟨o', h1, h2⟩
      · refine ⟨o', ?_⟩
        rw [← List.range_eq_range'] at h2
        rw [h2, seq_next (e1 _ h1)]
        rfl
      · refine ⟨o', ?_⟩
        rw [← List.range_eq_range'] at h2
        rw [h2, seq_ret (e1 _ h1)]
        rfl
    · rw [decide_eq_false hl, Bool.false_and]
      have hl2 : ¬ (ds.length : Int) = (fs.length : Int) := by omega
      rw [decide_eq_false hl2] at c3
      exact ⟨none, seq_ret ((if_t c3).trans rfl)⟩
  obtain ⟨o, h⟩ := main
  exact fn_ret (e := [some s, some t, none]) rfl rfl h
end
/-! ### by the kind of data -/
mutual
/-- no list or tuple in it is longer than an index may be -/
def szOk : Dt → Bool
  | .tup ds => small62 (ds.length : Int) && szOks ds
  | .lst ds => small62 (ds.length : Int) && szOks ds
  | .non => true
  | .bl _ => true
  | .int _ => true
  | .str _ => true
  | .obj _ _ _ => true
def szOks : List Dt → Bool
  | [] => true
  | d :: ds => szOk d && szOks ds
end
theorem szOks_all : ∀ ds : List Dt, szOks ds = ds.all szOk
  | [] => by rw [szOks, List.all_nil]
  | d :: ds => by rw [szOks, List.all_cons, szOks_all ds]
theorem szOk_tup {ds : List Dt} : szOk (.tup ds) = (small62 (ds.length : Int) && ds.all szOk) := by rw [szOk, szOks_all]
theorem szOk_lst {ds : List Dt} : szOk (.lst ds) = (small62 (ds.length : Int) && ds.all szOk) := by rw [szOk, szOks_all]
class SamE {α : Type} [DecidableEq α] (nn : Bool) (n : outParam Nat) (e : α → Dt) : Prop where
  same : ∀ (k : Nat) s t x y, n ≤ k → datOf s = some (e x) → datOf t = some (e y) → szOk (e y) = true → fSame nn (k + 1) [s, t] = rB (decide (x = y)) s t
/-- never None -/
class SamN {α : Type} (e : α → Dt) : Prop where
  non : ∀ (k : Nat) s x, datOf s = some (e x) → fSame true (k + 1) [s, .fz .non] = rB false s (.fz .non)
  nonr : ∀ (k : Nat) s x, datOf s = some (e x) → fSame true (k + 1) [.fz .non, s] = rB false (.fz .non) s
section
variable {α β γ : Type} [DecidableEq α] [DecidableEq β] [DecidableEq γ] {nn : Bool}
theorem scal {s : Sv} {d : Dt} (h : datOf s = some d) (hd : ∀ ds, d ≠ .lst ds) : s = .fz d := by
  cases s with
  | fz d' => cases h; rfl
  | ins _ _ _ => cases h
  | lst ss =>
    have h : (allFz ss).map Dt.lst = some d := h
    cases q : allFz ss with
    | none => rw [q] at h; cases h
    | some l => rw [q] at h; cases h; exact absurd rfl (hd l)
theorem lstS {s : Sv} {ds : List Dt} (h : datOf s = some (.lst ds)) : s = .fz (.lst ds) ∨ ∃ ss, s = .lst ss ∧ allFz ss = some ds := by
  cases s with
  | fz d' => cases h; exact .inl rfl
  | ins _ _ _ => cases h
  | lst ss =>
    have h : (allFz ss).map Dt.lst = some (Dt.lst ds) := h
    cases q : allFz ss with
    | none => rw [q] at h; cases h
    | some l => rw [q] at h; cases h; exact .inr ⟨ss, rfl, q⟩
instance : SamE nn 0 eI where
  same k s t x y _ hs ht _ := by
    obtain rfl := scal hs fun _ z => nomatch z
    obtain rfl := scal ht fun _ z => nomatch z
    cases nn <;> simp [fSame, bSame, hSame, kSame, nSame, rB, subT, gIsN, isNonS]
instance : SamE nn 0 eB where
  same k s t x y _ hs ht _ := by
    obtain rfl := scal hs fun _ z => nomatch z
    obtain rfl := scal ht fun _ z => nomatch z
    cases nn <;> cases x <;> cases y <;> simp [fSame, bSame, hSame, kSame, nSame, rB, subT, gIsN, isNonS]
instance : SamN eI where
  non k s x hs := by
    obtain rfl := scal hs fun _ z => nomatch z
    simp [fSame, bSame, hSame, kSame, nSame, rB, subT, gIsN, isNonS]
  nonr k s x hs := by
    obtain rfl := scal hs fun _ z => nomatch z
    simp [fSame, bSame, hSame, kSame, nSame, rB, subT, gIsN, isNonS]
instance : SamN eB where
  non k s x hs := by
    obtain rfl := scal hs fun _ z => nomatch z
    simp [fSame, bSame, hSame, kSame, nSame, rB, subT, gIsN, isNonS]
  nonr k s x hs := by
    obtain rfl := scal hs fun _ z => nomatch z
    simp [fSame, bSame, hSame, kSame, nSame, rB, subT, gIsN, isNonS]
theorem non_tup (k : Nat) (ds : List Dt) : fSame true (k + 1) [.fz (.tup ds), .fz .non] = rB false (.fz (.tup ds)) (.fz .non) := by simp [fSame, bSame, hSame, kSame, nSame, rB, subT, gIsN, isNonS]
theorem nonr_tup (k : Nat) (ds : List Dt) : fSame true (k + 1) [.fz .non, .fz (.tup ds)] = rB false (.fz .non) (.fz (.tup ds)) := by simp [fSame, bSame, hSame, kSame, nSame, rB, subT, gIsN, isNonS]
instance {e : α → Dt} : SamN (eT e) where
  non k s x hs := by obtain rfl := scal hs fun _ z => nomatch z; exact non_tup k _
  nonr k s x hs := by obtain rfl := scal hs fun _ z => nomatch z; exact nonr_tup k _
instance {e : α → Dt} {f : β → Dt} : SamN (e2 e f) where
  non k s x hs := by obtain rfl := scal hs fun _ z => nomatch z; exact non_tup k _
  nonr k s x hs := by obtain rfl := scal hs fun _ z => nomatch z; exact nonr_tup k _
instance {e : α → Dt} : SamN (eL e) where
  non k s x hs := by
    rcases lstS hs with rfl | ⟨ss, rfl, _⟩
    · simp [fSame, bSame, hSame, kSame, nSame, rB, subT, gIsN, isNonS]
    · simp [fSame, bSame, hSame, kSame, nSame, rB, subT, gIsN, isNonS]
  nonr k s x hs := by
    rcases lstS hs with rfl | ⟨ss, rfl, _⟩
    · simp [fSame, bSame, hSame, kSame, nSame, rB, subT, gIsN, isNonS]
    · simp [fSame, bSame, hSame, kSame, nSame, rB, subT, gIsN, isNonS]
/-- the answers item by item -/
def bsL (x y : List α) (i : Nat) : Bool := decide (x[i]? = y[i]?)
theorem bsL_all (x y : List α) : (decide (x.length = y.length) && (List.range y.length).all (bsL x y)) = decide (x = y) := by
  by_cases h : x = y
  · subst h
    simp [bsL]
  · rw [decide_eq_false h, Bool.and_eq_false_iff]
    by_cases hl : x.length = y.length
    · refine .inr (Bool.eq_false_iff.mpr fun z => h ?_)
      apply List.ext_getElem? 
      intro i
      by_cases hi : i < y.length
      · exact of_decide_eq_true (List.all_eq_true.mp z i (List.mem_range.mpr hi))
      · rw [List.getElem?_eq_none (by omega), List.getElem?_eq_none (by omega)]
    · exact .inl (decide_eq_false hl)
theorem at_nat {ds : List Dt} {i : Nat} {d : Dt} (h : ds[i]? = some d) : atI ds (i : Int) = some d := atI_nat h
/-- lists and tuples of a kind -/
theorem same_of {n : Nat} {e : α → Dt} [j : SamE nn n e] {s t : Sv} {x y : List α} {T : String} {k : Nat} (hk : n + 1 ≤ k) (hT : T = "tuple" ∨ T = "list") (ts : tyS s = some T) (tt : tyS t = some T) (ls : lenS s = some x.length) (lt : lenS t = some y.length) (hz : small62 (y.length : Int) = true)
    (hs : ∀ (i : Nat) d, (x.map e)[i]? = some d → ixS s (.fz (.int i)) = some (.fz d)) (ht : ∀ (i : Nat) d, (y.map e)[i]? = some d → ixS t (.fz (.int i)) = some (.fz d)) (hy : ∀ a ∈ y, szOk (e a) = true) : fSame nn (k + 1) [s, t] = rB (decide (x = y)) s t := by
  obtain ⟨k, rfl⟩ : ∃ m, k = m + 1 := ⟨k - 1, by omega⟩
  have := same_seq (nn := nn) (self := fSame nn (k + 1)) (ds := x.map e) (fs := y.map e) (bs := bsL x y) hT ts tt (by rw [List.length_map]; exact ls) (by rw [List.length_map]; exact lt) (by rw [List.length_map]; exact hz) hs ht fun i d f hd hf => by
    rw [List.getElem?_map] at hd hf
    obtain ⟨a, ha, rfl⟩ := Option.map_eq_some_iff.mp hd
    obtain ⟨b, hb, rfl⟩ := Option.map_eq_some_iff.mp hf
    have := j.same k (.fz (e a)) (.fz (e b)) a b (by omega) rfl rfl (hy b (List.mem_of_getElem? hb))
    rw [this]
    unfold bsL
    rw [ha, hb]
    simp [rB]
  rw [List.length_map, List.length_map, bsL_all] at this
  exact this
instance instSamT {n : Nat} {e : α → Dt} [j : SamE nn n e] : SamE nn (n + 1) (eT e) where
  same k s t x y hk hs ht ho := by
    obtain rfl := scal hs fun _ z => nomatch z
    obtain rfl := scal ht fun _ z => nomatch z
    rw [szOk_tup, List.length_map] at ho
    obtain ⟨h1, h2⟩ := Bool.and_eq_true_iff.mp ho
    refine same_of hk (.inl rfl) rfl rfl (by show some (x.map e).length = _; rw [List.length_map]) (by show some (y.map e).length = _; rw [List.length_map]) h1 (fun i d hd => ?_) (fun i d hd => ?_) fun a ha => List.all_eq_true.mp h2 (e a) (List.mem_map_of_mem ha)
    · show (atI (x.map e) i).map Sv.fz = _; rw [at_nat hd]; rfl
    · show (atI (y.map e) i).map Sv.fz = _; rw [at_nat hd]; rfl
theorem lst_facts {e : α → Dt} {s : Sv} {x : List α} (h : datOf s = some (eL e x)) : tyS s = some "list" ∧ lenS s = some x.length ∧ ∀ (i : Nat) d, (x.map e)[i]? = some d → ixS s (.fz (.int i)) = some (.fz d) := by
  rcases lstS h with rfl | ⟨ss, rfl, hq⟩
  · refine ⟨rfl, by show some (x.map e).length = _; rw [List.length_map], fun i d hd => ?_⟩
    show (atI (x.map e) i).map Sv.fz = _
    rw [at_nat hd]; rfl
  · have hl : ∀ {ss : List Sv} {ds : List Dt}, allFz ss = some ds → ss.length = ds.length := by
      intro ss
      induction ss with
      | nil => intro ds h; cases h; rfl
      | cons a ss ih =>
        intro ds h
        cases a with
        | fz d =>
          simp only [allFz] at h
          cases q : allFz ss with
          | none => rw [q] at h; cases h
          | some l => rw [q] at h; cases h; rw [List.length_cons, List.length_cons, ih q]
        | lst _ => cases h
        | ins _ _ _ => cases h
    refine ⟨rfl, by show some ss.length = _; rw [hl hq, List.length_map], fun i d hd => ?_⟩
    show ((allFz ss).bind fun ds => (atI ds i).map Sv.fz) = _
    rw [hq]
    show (atI (x.map e) i).map Sv.fz = _
    rw [at_nat hd]; rfl
instance instSamL {n : Nat} {e : α → Dt} [j : SamE nn n e] : SamE nn (n + 1) (eL e) where
  same k s t x y hk hs ht ho := by
    rw [szOk_lst, List.length_map] at ho
    obtain ⟨h1, h2⟩ := Bool.and_eq_true_iff.mp ho
    obtain ⟨a1, a2, a3⟩ := lst_facts hs
    obtain ⟨b1, b2, b3⟩ := lst_facts ht
    exact same_of hk (.inr rfl) a1 b1 a2 b2 h1 a3 b3 fun a ha => List.all_eq_true.mp h2 (e a) (List.mem_map_of_mem ha)
instance instSam2 {n m : Nat} {a : α → Dt} {b : β → Dt} [i : SamE nn n a] [j : SamE nn m b] : SamE nn (n + m + 1) (e2 a b) where
  same k s t x y hk hs ht ho := by
    obtain rfl := scal hs fun _ z => nomatch z
    obtain rfl := scal ht fun _ z => nomatch z
    rw [szOk_tup] at ho
    have h0 := List.all_eq_true.mp (Bool.and_eq_true_iff.mp ho).2
    have h1 := h0 (a y.1) (by simp)
    have h2 := h0 (b y.2) (by simp)
    obtain ⟨k, rfl⟩ : ∃ m, k = m + 1 := ⟨k - 1, by omega⟩
    have := same_seq (nn := nn) (self := fSame nn (k + 1)) (s := .fz (e2 a b x)) (t := .fz (e2 a b y)) (ds := [a x.1, b x.2]) (fs := [a y.1, b y.2]) (bs := fun q => if q = 0 then decide (x.1 = y.1) else decide (x.2 = y.2)) (.inl rfl) rfl rfl rfl rfl (small_of (by simp) (by simp)) (fun q d hd => by show (atI [a x.1, b x.2] q).map Sv.fz = _; rw [at_nat hd]; rfl) (fun q d hd => by show (atI [a y.1, b y.2] q).map Sv.fz = _; rw [at_nat hd]; rfl) fun q d f hd hf => by
      match q, hd, hf with
      | 0, hd, hf =>
        cases hd; cases hf
        exact i.same k _ _ x.1 y.1 (by omega) rfl rfl h1
      | 1, hd, hf =>
        cases hd; cases hf
        exact j.same k _ _ x.2 y.2 (by omega) rfl rfl h2
      | q + 2, hd, _ => simp at hd
    refine this.trans ?_
    have e1 : (decide ([a x.1, b x.2].length = [a y.1, b y.2].length) && (List.range [a y.1, b y.2].length).all fun q => if q = 0 then decide (x.1 = y.1) else decide (x.2 = y.2)) = decide (x = y) := by
      show (decide (x.1 = y.1) && (decide (x.2 = y.2) && true)) = _
      obtain ⟨x1, x2⟩ := x
      obtain ⟨y1, y2⟩ := y
      by_cases p : x1 = y1 <;> by_cases q : x2 = y2 <;> simp [p, q]
    rw [e1]
instance instSamO {n : Nat} {e : α → Dt} [j : SamE true n e] [i : SamN e] : SamE true n (eO e) where
  same k s t x y hk hs ht ho := by
    cases x with
    | none =>
      obtain rfl := scal hs fun _ z => nomatch z
      cases y with
      | none =>
        obtain rfl := scal ht fun _ z => nomatch z
        simp [fSame, bSame, hSame, kSame, nSame, rB, subT, gIsN, isNonS]
      | some y => exact (i.nonr k t y ht).trans (by simp [rB])
    | some x =>
      cases y with
      | none =>
        obtain rfl := scal ht fun _ z => nomatch z
        exact (i.non k s x hs).trans (by simp [rB])
      | some y =>
        have := j.same k s t x y hk hs ht ho
        rw [this]
        simp [rB]
theorem dt_q {s : α → Sv} {e : α → Dt} (h : ∀ x, datOf (s x) = some (e x)) {o : Option α} : datOf (sO s o) = some (eO e o) := by
  cases o with
  | none => rfl
  | some x => exact h x
end
end Fw
set_option Elab.async false
set_option linter.all false
set_option maxRecDepth 100000
set_option maxHeartbeats 1000000
/-! The mathematics of the typed forms: loops, comprehensions, indices. -/
namespace Fw
open PySem PySem.Spec PyProof.Rows L2
section
variable {α β σ ρ γ : Type}
/-- (not by rfl, so that the kernel never looks into what follows) -/
theorem obs {a : α} {k : α → Option β} : (some a).bind k = k a := by
  have h : ∀ o : Option α, o = some a → o.bind k = k a := fun o e => by
    cases o with
    | none => cases e
    | some b => cases e; rfl
  exact h _ rfl
theorem bnd_ok {o : Option α} {k : α → Option β} {v : α} (h : o = some v) : o.bind k = k v := by rw [h]; rfl
theorem okb {b : Bool} {k : Unit → Option β} (h : b = true) : (okO b ()).bind k = k () := by rw [okO_t h]; rfl
theorem cpb {xs : List α} {k : List α → Option β} (h : xs.length ≤ 16777216) : (capO xs).bind k = k xs := by rw [capO_ok h]; rfl
theorem bex {o : Option α} {k : α → Option β} {P : β → Prop} (h : ∃ v, o = some v ∧ ∃ w, k v = some w ∧ P w) : ∃ w, o.bind k = some w ∧ P w := by
  obtain ⟨v, h1, w, h2, h3⟩ := h
  exact ⟨w, by rw [h1]; exact h2, h3⟩
theorem forO_inv (P : σ → Prop) {f : α → σ → Option σ} : ∀ {xs : List α} {s : σ}, (∀ x ∈ xs, ∀ s, P s → ∃ s', f x s = some s' ∧ P s') → P s → ∃ s', forO f xs s = some s' ∧ P s'
  | [], s, _, h => ⟨s, rfl, h⟩
  | x :: xs, s, hf, h => by
    obtain ⟨s1, h1, h2⟩ := hf x List.mem_cons_self s h
    obtain ⟨s2, h3, h4⟩ := forO_inv P (fun y hy => hf y (List.mem_cons_of_mem _ hy)) h2
    exact ⟨s2, by rw [forO, h1]; exact h3, h4⟩
/-- the turns counted -/
theorem forO_ix (P : Nat → σ → Prop) {f : α → σ → Option σ} : ∀ {xs : List α} {s : σ} (k : Nat), (∀ (i : Nat) x, xs[i]? = some x → ∀ s, P (k + i) s → ∃ s', f x s = some s' ∧ P (k + i + 1) s') → P k s → ∃ s', forO f xs s = some s' ∧ P (k + xs.length) s'
  | [], s, k, _, h => ⟨s, rfl, h⟩
  | x :: xs, s, k, hf, h => by
    obtain ⟨s1, h1, h2⟩ := hf 0 x rfl s h
    obtain ⟨s2, h3, h4⟩ := forO_ix P (f := f) (xs := xs) (s := s1) (k + 1) (fun i y hy s hs => by
      have := hf (i + 1) y (by simpa using hy) s (by rw [show k + (i + 1) = k + 1 + i by omega]; exact hs)
      rw [show k + 1 + i + 1 = k + (i + 1) + 1 by omega]
      exact this) h2
    exact ⟨s2, by rw [forO, h1]; exact h3, by rw [List.length_cons, show k + (xs.length + 1) = k + 1 + xs.length by omega]; exact h4⟩
/-- with the part that was walked -/
theorem forO_pre (P : List α → σ → Prop) {f : α → σ → Option σ} : ∀ {xs : List α} {s : σ} (pre : List α), (∀ q x r, pre ++ xs = q ++ x :: r → ∀ s, P q s → ∃ s', f x s = some s' ∧ P (q ++ [x]) s') → P pre s → ∃ s', forO f xs s = some s' ∧ P (pre ++ xs) s'
  | [], s, pre, _, h => ⟨s, rfl, by rw [List.append_nil]; exact h⟩
  | x :: xs, s, pre, hf, h => by
    obtain ⟨s1, h1, h2⟩ := hf pre x xs rfl s h
    obtain ⟨s2, h3, h4⟩ := forO_pre P (f := f) (xs := xs) (s := s1) (pre ++ [x]) (fun q y r e s hs => hf q y r (by rw [← e]; simp) s hs) h2
    exact ⟨s2, by rw [forO, h1]; exact h3, by rw [List.append_assoc] at h4; exact h4⟩
theorem forO_fold {f : α → σ → Option σ} {g : σ → α → σ} : ∀ {xs : List α} {s : σ}, (∀ x ∈ xs, ∀ s, f x s = some (g s x)) → forO f xs s = some (xs.foldl g s)
  | [], s, _ => rfl
  | x :: xs, s, h => by
    rw [forO, h x List.mem_cons_self s]
    exact forO_fold fun y hy => h y (List.mem_cons_of_mem _ hy)
/-- a list that grows, turn by turn -/
theorem forO_app {f : α → List β → Option (List β)} {g : α → List β} {N : Nat} : ∀ {xs : List α} {s : List β}, (∀ x ∈ xs, ∀ s, s.length + (g x).length ≤ N → f x s = some (s ++ g x)) → s.length + (xs.flatMap g).length ≤ N → forO f xs s = some (s ++ xs.flatMap g)
  | [], s, _, _ => by simp [forO]
  | x :: xs, s, hf, h => by
    rw [List.flatMap_cons, List.length_append] at h
    rw [forO, hf x List.mem_cons_self s (by omega), Option.bind_some, forO_app (fun y hy => hf y (List.mem_cons_of_mem _ hy)) (by rw [List.length_append]; omega), List.flatMap_cons, List.append_assoc]
theorem flatMap_if {p : α → Bool} {g : α → β} : ∀ xs : List α, (xs.flatMap fun x => if p x = true then [g x] else []) = (xs.filter p).map g
  | [] => rfl
  | x :: xs => by
    rw [List.flatMap_cons, flatMap_if xs]
    cases h : p x with
    | true => rw [List.filter_cons_of_pos h]; rfl
    | false => rw [List.filter_cons_of_neg (by rw [h]; decide)]; rfl
theorem app_if {b : Bool} {xs : List α} {x : α} : xs ++ (if b = true then [x] else []) = if b = true then xs ++ [x] else xs := by cases b <;> simp
theorem forC_all (P : σ → Prop) {f : α → σ → Option (Ct σ ρ)} : ∀ {xs : List α} {s : σ}, (∀ x ∈ xs, ∀ s, P s → ∃ s', f x s = some (.nx s') ∧ P s') → P s → ∃ s', forC f xs s = some (.nx s') ∧ P s'
  | [], s, _, h => ⟨s, rfl, h⟩
  | x :: xs, s, hf, h => by
    obtain ⟨s1, h1, h2⟩ := hf x List.mem_cons_self s h
    obtain ⟨s2, h3, h4⟩ := forC_all P (fun y hy => hf y (List.mem_cons_of_mem _ hy)) h2
    exact ⟨s2, by rw [forC, h1]; exact h3, h4⟩
/-- a search -/
theorem forC_find {f : α → Unit → Option (Ct Unit ρ)} {t : α → Bool} {r : α → ρ} : ∀ {xs : List α}, (∀ x ∈ xs, f x () = some (if t x = true then .rt (r x) else .nx ())) → forC f xs () = some (match xs.find? t with | some x => .rt (r x) | none => .nx ())
  | [], _ => rfl
  | x :: xs, h => by
    rw [forC, h x List.mem_cons_self]
    have ih := forC_find (f := f) (t := t) (r := r) (xs := xs) fun y hy => h y (List.mem_cons_of_mem _ hy)
    cases ht : t x with
    | true => simp [ht]
    | false => simp only [Bool.false_eq_true, if_false, Option.bind_some, List.find?_cons, ht]; exact ih
theorem cmpO_map {f : α → Option (Option β)} {g : α → β} : ∀ {xs : List α}, (∀ x ∈ xs, f x = some (some (g x))) → cmpO f xs = some (xs.map g)
  | [], _ => rfl
  | x :: xs, h => by
    rw [cmpO, h x List.mem_cons_self, Option.bind_some, cmpO_map fun y hy => h y (List.mem_cons_of_mem _ hy)]
    rfl
theorem cmpO_filterMap {f : α → Option (Option β)} {g : α → Option β} : ∀ {xs : List α}, (∀ x ∈ xs, f x = some (g x)) → cmpO f xs = some (xs.filterMap g)
  | [], _ => rfl
  | x :: xs, h => by
    rw [cmpO, h x List.mem_cons_self, Option.bind_some, cmpO_filterMap fun y hy => h y (List.mem_cons_of_mem _ hy), List.filterMap_cons]
    cases g x <;> rfl
theorem cmpS_inv (P : σ → Prop) (R : β → Prop) {f : α → σ → Option (Option β × σ)} : ∀ {xs : List α} {s : σ}, (∀ x ∈ xs, ∀ s, P s → ∃ c s', f x s = some (c, s') ∧ P s' ∧ ∀ v, c = some v → R v) → P s → ∃ r s', cmpS f xs s = some (r, s') ∧ P s' ∧ r.length ≤ xs.length ∧ ∀ v ∈ r, R v
  | [], s, _, h => ⟨[], s, rfl, h, Nat.le_refl _, fun v hv => nomatch hv⟩
  | x :: xs, s, hf, h => by
    obtain ⟨c, s1, h1, h2, h3⟩ := hf x List.mem_cons_self s h
    obtain ⟨r, s2, h4, h5, h6, h7⟩ := cmpS_inv P R (fun y hy => hf y (List.mem_cons_of_mem _ hy)) h2
    cases c with
    | none => exact ⟨r, s2, by rw [cmpS, h1]; simp only [Option.bind_some]; rw [h4]; rfl, h5, by rw [List.length_cons]; omega, h7⟩
    | some v =>
      refine ⟨v :: r, s2, by rw [cmpS, h1]; simp only [Option.bind_some]; rw [h4]; rfl, h5, by simp only [List.length_cons]; omega, fun w hw => ?_⟩
      rcases List.mem_cons.mp hw with rfl | hw
      · exact h3 _ rfl
      · exact h7 w hw
theorem cmpS_all (P : σ → Prop) (R : β → Prop) {f : α → σ → Option (Option β × σ)} : ∀ {xs : List α} {s : σ}, (∀ x ∈ xs, ∀ s, P s → ∃ v s', f x s = some (some v, s') ∧ P s' ∧ R v) → P s → ∃ r s', cmpS f xs s = some (r, s') ∧ P s' ∧ r.length = xs.length ∧ ∀ v ∈ r, R v
  | [], s, _, h => ⟨[], s, rfl, h, rfl, fun v hv => nomatch hv⟩
  | x :: xs, s, hf, h => by
    obtain ⟨v, s1, h1, h2, h3⟩ := hf x List.mem_cons_self s h
    obtain ⟨r, s2, h4, h5, h6, h7⟩ := cmpS_all P R (fun y hy => hf y (List.mem_cons_of_mem _ hy)) h2
    refine ⟨v :: r, s2, by rw [cmpS, h1]; simp only [Option.bind_some]; rw [h4]; rfl, h5, by simp only [List.length_cons]; omega, fun w hw => ?_⟩
    rcases List.mem_cons.mp hw with rfl | hw
    · exact h3
    · exact h7 w hw
theorem sz_I {x : Int} : szOk (eI x) = true := by rw [szOk]
theorem sz_B {x : Bool} : szOk (eB x) = true := by rw [szOk]
theorem sz_T {e : α → Dt} {xs : List α} (h : xs.length ≤ 1000000000) (h2 : ∀ x ∈ xs, szOk (e x) = true) : szOk (eT e xs) = true := by
  rw [szOk_tup, List.length_map, small_of (by omega) (by omega), Bool.true_and, List.all_map]
  exact List.all_eq_true.mpr h2
theorem sz_L {e : α → Dt} {xs : List α} (h : xs.length ≤ 1000000000) (h2 : ∀ x ∈ xs, szOk (e x) = true) : szOk (eL e xs) = true := by
  rw [szOk_lst, List.length_map, small_of (by omega) (by omega), Bool.true_and, List.all_map]
  exact List.all_eq_true.mpr h2
theorem sz_2 {e : α → Dt} {f : β → Dt} {p : α × β} (h1 : szOk (e p.1) = true) (h2 : szOk (f p.2) = true) : szOk (e2 e f p) = true := by
  rw [szOk_tup, small_of (by simp) (by simp)]
  simp [h1, h2]
theorem sz_on {e : α → Dt} : szOk (eO e none) = true := by rw [eO, szOk]
theorem sz_os {e : α → Dt} {x : α} (h : szOk (e x) = true) : szOk (eO e (some x)) = true := h
theorem sz_Li {xs : List Int} (h : xs.length ≤ 1000000000) : szOk (eL eI xs) = true := sz_L h fun _ _ => sz_I
theorem sz_Ti {xs : List Int} (h : xs.length ≤ 1000000000) : szOk (eT eI xs) = true := sz_T h fun _ _ => sz_I
theorem sz_LTi {xs : List (List Int)} (h : xs.length ≤ 1000000000) (h2 : ∀ x ∈ xs, x.length ≤ 1000000000) : szOk (eL (eT eI) xs) = true := sz_L h fun x hx => sz_Ti (h2 x hx)
/-! ### indices -/
theorem atI_of {xs : List α} {i : Int} {k : Nat} (hk : i = k) (h : k < xs.length) : atI xs i = some xs[k] := by
  subst hk
  exact atI_nat (List.getElem?_eq_getElem h)
theorem atI_at {xs : List α} {k : Nat} {v : α} (h : xs[k]? = some v) : atI xs (k : Int) = some v := atI_nat h
theorem atI_0 {x : α} {xs : List α} : atI (x :: xs) 0 = some x := atI_nat (j := 0) rfl
theorem atI_m1 {xs : List α} (h : xs ≠ []) : atI xs (-1) = some (xs.getLast h) := by
  have := atI_last xs.dropLast (xs.getLast h)
  rw [List.dropLast_concat_getLast] at this
  exact this
theorem atI_mem {xs : List α} {i : Int} {v : α} (h : atI xs i = some v) : v ∈ xs := by
  unfold atI at h
  obtain ⟨k, _, h2⟩ := bnd h
  exact List.mem_of_getElem? h2
theorem atI_ex {xs : List α} {i : Int} (h0 : 0 ≤ i) (h1 : i < xs.length) : ∃ v, atI xs i = some v ∧ v ∈ xs := by
  obtain ⟨k, rfl⟩ := Int.eq_ofNat_of_zero_le h0
  have hk : k < xs.length := by omega
  exact ⟨xs[k], atI_of rfl hk, List.getElem_mem hk⟩
theorem rgL_mem {lo : Int} {n : Nat} {x : Int} : x ∈ rgL lo n ↔ lo ≤ x ∧ x < lo + n := by
  unfold rgL
  rw [List.mem_map]
  constructor
  · rintro ⟨k, hk, rfl⟩
    have := List.mem_range.mp hk
    omega
  · rintro ⟨h1, h2⟩
    exact ⟨(x - lo).toNat, List.mem_range.mpr (by omega), by omega⟩
theorem rgL_len {lo : Int} {n : Nat} : (rgL lo n).length = n := by unfold rgL; simp
theorem rgL_nodup {lo : Int} {n : Nat} : (rgL lo n).Pairwise (· < ·) := by
  unfold rgL
  rw [List.pairwise_map]
  exact List.pairwise_lt_range.imp fun h => by omega
theorem s62 {i : Int} (h0 : -1000000000 ≤ i) (h1 : i ≤ 1000000000) : small62 i = true := small_of h0 h1
theorem s24 {i : Int} (h0 : -1000000 ≤ i) (h1 : i ≤ 16777216) : small24 i = true := decide_eq_true ⟨h0, h1⟩
theorem pmod {i j : Int} (h : j ≠ 0) : pMod i j = true := decide_eq_true h
theorem pmul {i j : Int} (h0 : -1000000000 ≤ j) (h1 : j ≤ 1000000000) : pMul i j = true := decide_eq_true (.inr ⟨by omega, by omega⟩)
theorem ppow {i j : Int} (h0 : 0 ≤ j) (h1 : j ≤ 1000000) (h2 : i.natAbs < 2 ^ 64) : pPow i j = true := decide_eq_true ⟨h0, h1, h2⟩
end
end Fw
set_option Elab.async false
set_option linter.all false
set_option maxRecDepth 100000
set_option maxHeartbeats 1000000
/-! Texts: split, partition, join, index, list of a text, global texts. -/
namespace L2
open PySem PySem.Spec PyProof.Rows
theorem vals_signs (x : Str) : ∀ (cs : List Nat) (us : List Value), us.length = cs.length → (∀ (j : Nat) (v : Value), us[j]? = some v → ∃ (c : Nat) (u : Tok), cs[j]? = some c ∧ v = Value.str ⟨#[c]⟩ u) → Vals (cs.map fun c => V.str ⟨#[c]⟩) us
  | [], [], _, _ => .nil
  | [], _ :: _, h, _ => by cases h
  | _ :: _, [], h, _ => by cases h
  | c :: cs, u :: us, h, k => by
    refine .cons ?_ (vals_signs x cs us (by simpa using h) fun j v e => ?_)
    · obtain ⟨c', t, e, rfl⟩ := k 0 u rfl
      cases e
      exact ⟨t, rfl⟩
    · obtain ⟨c', t, e2, e3⟩ := k (j + 1) v (by simpa using e)
      exact ⟨c', t, by simpa using e2, e3⟩
theorem call_listStr {X : Cx} (hc : X.calm = true) : CallR X (.type "list") (fun xs H Q => ∃ x : Str, xs = [V.str x] ∧ x.cps.size ≤ sizeLine ∧ ∀ l, H l = none → Q (.ref l) (upd H l (.lst (x.cps.toList.map fun c => V.str ⟨#[c]⟩)))) := by
  intro pins s σ H xs us Q I r h
  obtain ⟨x, rfl, hz, q⟩ := h
  obtain ⟨u, rfl, rx⟩ := vals1 r
  obtain ⟨t, rfl⟩ := rx
  refine PySem.call_list_str (I.ok.hd hc) x t (fun h' tk acc' c' kp e it => ?_) hz
  refine ⟨.ref s.heap.objs.size, _, I.laid (t' := tk) kp (Nat.le_refl _) (show ObjOk X.prog X.w _ h' _ (.lst (x.cps.toList.map fun c => V.str ⟨#[c]⟩)) from ⟨by rw [List.length_map, Array.length_toList]; exact hz, acc'.toList, c', ?_, by rw [Array.toArray_toList]; exact e⟩), rfl, q _ (I.hok.fresh (Nat.le_refl _))⟩
  refine vals_signs x x.cps.toList acc'.toList (by rw [Array.length_toList, Array.length_toList]; exact it.1) fun j v hv => ?_
  obtain ⟨c, u, h1, h2⟩ := it.2 j v (by simpa using hv)
  exact ⟨c, u, by simpa using h1, h2⟩
end L2
namespace Fw
open PySem PySem.Spec PyProof.Rows L2
def spS : Sv → Sv → Option Sv
  | .fz (.str a), .fz (.str b) => if (b.length == 0) = false ∧ a.length + 2 ≤ sizeLine then some (.lst (((Txt.split a b).map Dt.str).map .fz)) else none
  | _, _ => none
def ptS : Sv → Sv → Option Sv
  | .fz (.str a), .fz (.str b) => if (b.length == 0) = false ∧ a.length ≤ sizeLine then some (.fz (.tup [.str (Txt.partition a b).1, .str (Txt.partition a b).2.1, .str (Txt.partition a b).2.2])) else none
  | _, _ => none
def idS : Sv → Sv → Option Sv
  | .fz (.str a), .fz (.str b) => match Builtin.Str.occurrences a b 0 a.length 1 with
    | i :: _ => some (.fz (.int (i : Nat)))
    | [] => none
  | _, _ => none
def strsD : List Dt → Option (List Str)
  | [] => some []
  | .str x :: ds => (strsD ds).map (x :: ·)
  | _ => none
def jnS : Sv → Sv → Option Sv
  | .fz (.str a), u => (elemsLT u).bind fun ds => (strsD ds).bind fun ys => if (ys.map (·.length)).sum + ys.length * a.length ≤ 16777216 then some (.fz (.str (Txt.join a ys))) else none
  | _, _ => none
def lsS : Sv → Option Sv
  | .fz (.str x) => if x.cps.size ≤ sizeLine then some (.lst ((signs x).map .fz)) else none
  | _ => none
def gSplit : Bf := keep2 spS
def gPart : Bf := keep2 ptS
def gIndex : Bf := keep2 idS
def gJoin : Bf := keep2 jnS
def gListS : Bf := keep1 lsS
section
variable {G : Gd}
theorem rpd_strs {R : Hp} : ∀ ys : List Str, RpDs G R (ys.map Dt.str) (ys.map V.str)
  | [] => rfl
  | y :: ys => ⟨_, _, rfl, rfl, rpd_strs ys⟩
theorem rpd_of_strs {R : Hp} : ∀ {ds : List Dt} {ys : List Str} {ws : List V}, strsD ds = some ys → RpDs G R ds ws → ws = ys.map V.str
  | [], ys, ws, h, r => by cases h; cases r; rfl
  | d :: ds, ys, ws, h, ⟨v, vr, e, h1, r⟩ => by
    subst e
    cases d with
    | str x =>
      have h : (strsD ds).map (x :: ·) = some ys := h
      cases q : strsD ds with
      | none => rw [q] at h; cases h
      | some zs => rw [q] at h; cases h; cases h1; rw [rpd_of_strs q r]; rfl
    | _ => cases h
theorem srv_m2 {r : V → List V → Hp → VK → Prop} {g : Sv → Sv → Option Sv} (h : ∀ Z R H s u x y ts vs env σ w Q, Cfg G Z R H (s :: u :: ts) (x :: y :: vs) env σ → g s u = some w →
    (∀ v R' H', Cfg G Z R' H' (w :: s :: u :: ts) (v :: x :: y :: vs) env σ → Q v H') → r x [y] H Q) : Srv G (rml r) (keep2 g) := by
  intro Z R H ss ws ts vs env σ s ss' Q hl c hg hl2 q
  exact srv2 (r := fun x y H Q => r x [y] H Q) h Z R H ss ws ts vs env σ s ss' Q hl c hg hl2 q |> fun z => by
    obtain ⟨s1, s2, rfl⟩ : ∃ s1 s2, ss = [s1, s2] := by
      unfold keep2 at hg
      split at hg
      · exact ⟨_, _, rfl⟩
      · cases hg
    match ws, hl with
    | [x, y], _ => exact z
theorem srv_split : Srv G (rml fun x xs H Q => ∃ a b, x = .str a ∧ xs = [.str b] ∧ (b.length == 0) = false ∧ a.length + 2 ≤ sizeLine ∧ rNewStrs (Txt.split a b) H Q) gSplit := srv_m2 fun Z R H s u x y ts vs env σ w Q c hg q => by
  unfold spS at hg
  split at hg
  · rename_i a b
    split at hg
    · rename_i hz
      cases hg
      have e1 := c.top
      have e2 := c.top2
      cases e1
      cases e2
      exact ⟨a, b, rfl, rfl, hz.1, hz.2, fun p hp => q _ _ _ (c.newFz (rpd_strs _) hp)⟩
    · cases hg
  · cases hg
theorem srv_part : Srv G (rml fun x xs H Q => ∃ a b, x = .str a ∧ xs = [.str b] ∧ (b.length == 0) = false ∧ a.length ≤ sizeLine ∧ ∀ p, H p = none → Q (.ref p) (upd H p (.tup [.str (Txt.partition a b).1, .str (Txt.partition a b).2.1, .str (Txt.partition a b).2.2]))) gPart := srv_m2 fun Z R H s u x y ts vs env σ w Q c hg q => by
  unfold ptS at hg
  split at hg
  · rename_i a b
    split at hg
    · rename_i hz
      cases hg
      have e1 := c.top
      have e2 := c.top2
      cases e1
      cases e2
      refine ⟨a, b, rfl, rfl, hz.1, hz.2, fun l hl => ?_⟩
      obtain ⟨c2, e2⟩ := c.grow (.tup [.str (Txt.partition a b).1, .str (Txt.partition a b).2.1, .str (Txt.partition a b).2.2]) hl
      exact q _ _ _ (c2.push ⟨l, _, rfl, .inl (.inl upd_same), ⟨_, _, rfl, rfl, _, _, rfl, rfl, _, _, rfl, rfl, rfl⟩⟩)
    · cases hg
  · cases hg
theorem srv_index : Srv G (rml fun x xs H Q => ∃ a b i rest, x = .str a ∧ xs = [.str b] ∧ Builtin.Str.occurrences a b 0 a.length 1 = i :: rest ∧ Q (.int (i : Nat)) H) gIndex := srv_m2 fun Z R H s u x y ts vs env σ w Q c hg q => by
  unfold idS at hg
  split at hg
  · rename_i a b
    split at hg
    · rename_i i rest ho
      cases hg
      have e1 := c.top
      have e2 := c.top2
      cases e1
      cases e2
      exact ⟨a, b, i, rest, rfl, rfl, ho, q _ _ _ (c.push rfl)⟩
    · cases hg
  · cases hg
theorem srv_join : Srv G (rml fun x xs H Q => ∃ a p, ∃ ys : List Str, x = .str a ∧ xs = [.ref p] ∧ (SqL G.K H p (ys.map V.str) ∨ SqT G.K H p (ys.map V.str)) ∧ (ys.map (·.length)).sum + ys.length * a.length ≤ 16777216 ∧ Q (.str (Txt.join a ys)) H) gJoin := srv_m2 fun Z R H s u x y ts vs env σ w Q c hg q => by
  unfold jnS at hg
  split at hg
  · rename_i a
    cases q1 : elemsLT u with
    | none => rw [q1] at hg; cases hg
    | some ds =>
      rw [q1] at hg
      have hg : ((strsD ds).bind fun ys => if (ys.map (·.length)).sum + ys.length * a.length ≤ 16777216 then some (Sv.fz (.str (Txt.join a ys))) else none) = some w := hg
      cases q2 : strsD ds with
      | none => rw [q2] at hg; cases hg
      | some ys =>
        rw [q2] at hg
        have hg : (if (ys.map (·.length)).sum + ys.length * a.length ≤ 16777216 then some (Sv.fz (.str (Txt.join a ys))) else none) = some w := hg
        split at hg
        · rename_i hz
          cases hg
          have e1 := c.top
          cases e1
          obtain ⟨p, ws, rfl, hr, hs⟩ := elemsLT_ok (Cfg.pop c) q1
          have := rpd_of_strs q2 hr
          subst this
          exact ⟨a, p, ys, rfl, rfl, hs, hz, q _ _ _ (c.push rfl)⟩
        · cases hg
  · cases hg
theorem srv_listS : Srv G (fun xs H Q => ∃ x : Str, xs = [V.str x] ∧ x.cps.size ≤ sizeLine ∧ ∀ l, H l = none → Q (.ref l) (upd H l (.lst (x.cps.toList.map fun c => V.str ⟨#[c]⟩)))) gListS := srv1 fun Z R H s x ts vs env σ w Q c hg q => by
  unfold lsS at hg
  split at hg
  · rename_i x
    split at hg
    · rename_i hz
      cases hg
      have e1 := c.top
      cases e1
      refine ⟨x, rfl, hz, fun p hp => q _ _ _ (c.newFz ?_ hp)⟩
      have h := rpd_strs (G := G) (R := R) (x.cps.toList.map fun c => (⟨#[c]⟩ : Str))
      rw [List.map_map, List.map_map] at h
      exact h
    · cases hg
  · cases hg
end
section
variable {C : Str → Addr} {X : Cx} {W : WX} {a b o : Expr} {fa fb fo : Ex} {fA : Env → Res (List Arg × Env)} {pos p apos cpos : Pos}
theorem m_split (ho : VE C X W o fo) (ha : VA C X W [a] fA)
    (hat : attributeBase o "split" X.env (eval o X.env) = eval o X.env := by rfl) (hb : ((backTo cpos (starEach [a] X.env)).all (!·.1) && (backToKw cpos (keywordEach [] X.env)).all (·.1.isSome) && decide ([a].length + ([] : List Keyword).length + (if ([] : List Keyword).isEmpty = true then 0 else 1) < 30)) = true := by rfl)
    (hp : (apos.endLine == cpos.line) = true := by rfl) (hs : starEach [a] X.env = (false, eval a X.env) :: starEach [] X.env := by rfl) (hpl2 : (backTo cpos (starEach [] X.env)).any (·.1) = false := by rfl) : VE C X W (.Call (.Attribute o "split" apos) [a] [] cpos) (eMeth "str" gSplit fo fA) :=
  ve_meth PySem.F.plainAttrs_str PySem.F.slot_str_split PySem.F.type_str_split mt_split srv_split (by decide) ho ha hat hb hp hs hpl2
theorem m_partition (ho : VE C X W o fo) (ha : VA C X W [a] fA)
    (hat : attributeBase o "partition" X.env (eval o X.env) = eval o X.env := by rfl) (hb : ((backTo cpos (starEach [a] X.env)).all (!·.1) && (backToKw cpos (keywordEach [] X.env)).all (·.1.isSome) && decide ([a].length + ([] : List Keyword).length + (if ([] : List Keyword).isEmpty = true then 0 else 1) < 30)) = true := by rfl)
    (hp : (apos.endLine == cpos.line) = true := by rfl) (hs : starEach [a] X.env = (false, eval a X.env) :: starEach [] X.env := by rfl) (hpl2 : (backTo cpos (starEach [] X.env)).any (·.1) = false := by rfl) : VE C X W (.Call (.Attribute o "partition" apos) [a] [] cpos) (eMeth "str" gPart fo fA) :=
  ve_meth PySem.F.plainAttrs_str PySem.F.slot_str_partition PySem.F.type_str_partition mt_partition srv_part (by decide) ho ha hat hb hp hs hpl2
theorem m_index (ho : VE C X W o fo) (ha : VA C X W [a] fA)
    (hat : attributeBase o "index" X.env (eval o X.env) = eval o X.env := by rfl) (hb : ((backTo cpos (starEach [a] X.env)).all (!·.1) && (backToKw cpos (keywordEach [] X.env)).all (·.1.isSome) && decide ([a].length + ([] : List Keyword).length + (if ([] : List Keyword).isEmpty = true then 0 else 1) < 30)) = true := by rfl)
    (hp : (apos.endLine == cpos.line) = true := by rfl) (hs : starEach [a] X.env = (false, eval a X.env) :: starEach [] X.env := by rfl) (hpl2 : (backTo cpos (starEach [] X.env)).any (·.1) = false := by rfl) : VE C X W (.Call (.Attribute o "index" apos) [a] [] cpos) (eMeth "str" gIndex fo fA) :=
  ve_meth PySem.F.plainAttrs_str PySem.F.slot_str_index PySem.F.type_str_index mt_sindex srv_index (by decide) ho ha hat hb hp hs hpl2
theorem m_join (ho : VE C X W o fo) (ha : VA C X W [a] fA)
    (hat : attributeBase o "join" X.env (eval o X.env) = eval o X.env := by rfl) (hb : ((backTo cpos (starEach [a] X.env)).all (!·.1) && (backToKw cpos (keywordEach [] X.env)).all (·.1.isSome) && decide ([a].length + ([] : List Keyword).length + (if ([] : List Keyword).isEmpty = true then 0 else 1) < 30)) = true := by rfl)
    (hp : (apos.endLine == cpos.line) = true := by rfl) (hs : starEach [a] X.env = (false, eval a X.env) :: starEach [] X.env := by rfl) (hpl2 : (backTo cpos (starEach [] X.env)).any (·.1) = false := by rfl) : VE C X W (.Call (.Attribute o "join" apos) [a] [] cpos) (eMeth "str" gJoin fo fA) :=
  ve_meth PySem.F.plainAttrs_str PySem.F.slot_str_join PySem.F.type_str_join mt_join srv_join (by decide) ho ha hat hb hp hs hpl2
theorem c_listS (hc : X.calm = true) (hm : X.mg "list" = none) (ha : VA C X W [a] fA) (hg : Gl X "list" := by rfl) (hs : starEach [a] X.env = (false, eval a X.env) :: starEach [] X.env := by rfl) (hpl : (backTo pos (starEach [] X.env)).any (·.1) = false := by rfl) : VE C X W (.Call (.Name "list" p) [a] [] pos) (eCall gListS fA) := ve_callTy (r := _) (call_listStr hc) srv_listS hg hm (by decide +kernel) ha (by decide) (by decide) hs hpl
theorem ve_gint_x {x : Str} {i : Int} {pos : Pos} (hm : ∃ t, X.mg x = some (.int i t)) (hg : Gl X x := by rfl) (hd : (x == ("__debug__" : Str)) = false := by decide) : VE C X W (.Name x pos) (eC (.int i)) := by
  obtain ⟨t, hm⟩ := hm
  exact ve_gint hg hm hd
theorem ve_gstr_x {x y : Str} {pos : Pos} (hm : ∃ t, X.mg x = some (.str y t)) (hg : Gl X x := by rfl) (hd : (x == ("__debug__" : Str)) = false := by decide) : VE C X W (.Name x pos) (eC (.str y)) := by
  obtain ⟨t, hm⟩ := hm
  exact ve_gstr hg hm hd
end
end Fw
set_option Elab.async false
set_option linter.all false
set_option maxRecDepth 100000
set_option maxHeartbeats 1000000
/-! Texts as lists of signs: typed forms. -/
namespace Fw
open PySem PySem.Spec PyProof.Rows L2
abbrev Sg := Fin 1114112
abbrev Wd := List Sg
def vl (x : Wd) : List Nat := x.map Fin.val
abbrev eX : Wd → Dt := fun x => .str ⟨(vl x).toArray⟩
def chs (x : Wd) : List Wd := x.map fun c => [c]
def okX (x : Wd) : Bool := decide (x.length ≤ 1000000)
theorem vl_inj {x y : Wd} (h : vl x = vl y) : x = y := by
  unfold vl at h
  exact (List.map_inj_right fun a b e => Fin.ext e).mp h
theorem vl_len (x : Wd) : (vl x).length = x.length := List.length_map ..
theorem vl_app (x y : Wd) : vl (x ++ y) = vl x ++ vl y := List.map_append ..
theorem strLen (l : List Nat) : (⟨l.toArray⟩ : Str).length = l.length := SX.S_len l
theorem eX_inj {x y : Wd} (h : eX x = eX y) : x = y := by
  have h : Dt.str ⟨(vl x).toArray⟩ = Dt.str ⟨(vl y).toArray⟩ := h
  injection h with h
  exact vl_inj (SX.S_inj h)
instance : EqE 0 eX := ⟨fun x => by
  show PyData.strOk ⟨(vl x).toArray⟩ = true
  unfold PyData.strOk
  rw [← Array.all_toList, List.all_eq_true]
  intro c hc
  obtain ⟨d, _, rfl⟩ := List.mem_map.mp hc
  exact decide_eq_true d.isLt, fun x => Nat.le_refl _, fun x y => by
  show ((⟨(vl x).toArray⟩ : Str) == ⟨(vl y).toArray⟩) = true ↔ x = y
  rw [SX.S_beq, beq_iff_eq]
  exact ⟨vl_inj, fun h => by rw [h]⟩⟩
instance : NnE eX := ⟨fun _ => rfl⟩
section
variable {a b x y : Wd} {i : Int} {s t : Sv}
theorem okX_le (h : okX x = true) : x.length ≤ 1000000 := of_decide_eq_true h
theorem line6 : 16777216 ≤ sizeLine := by decide
theorem g_len_x (h : okX x = true) : gLen [sF eX x] = some (sF eI (x.length : Int), [sF eX x]) := by
  have := okX_le h
  have h9 := line6
  show ((if (⟨(vl x).toArray⟩ : Str).length ≤ sizeLine then some (⟨(vl x).toArray⟩ : Str).length else none).map fun n : Nat => Sv.fz (.int n)).map _ = _
  rw [strLen, vl_len, if_pos (by omega)]
  rfl
theorem g_ix_x {c : Sg} (h : okX x = true) (hc : atI x i = some c) : gIx [sF eX x, sF eI i] = some (sF eX [c], [sF eX x, sF eI i]) := by
  have := okX_le h
  have h9 := line6
  show (if (⟨(vl x).toArray⟩ : Str).length ≤ sizeLine then (atI (vl x) i).map fun c => Sv.fz (.str ⟨#[c]⟩) else none).map _ = _
  rw [strLen, vl_len, if_pos (by omega)]
  unfold vl
  rw [atI_map, hc]
  rfl
theorem g_add_x {r : Wd} (h : capO (x ++ y) = some r) : gAdd [sF eX x, sF eX y] = some (sF eX r, [sF eX x, sF eX y]) := by
  obtain ⟨h1, rfl⟩ := capO_some h
  have h9 := line6
  rw [List.length_append] at h1
  show (if (⟨(vl x).toArray⟩ : Str).length + (⟨(vl y).toArray⟩ : Str).length ≤ sizeLine then some (Sv.fz (.str (⟨(vl x).toArray⟩ ++ ⟨(vl y).toArray⟩))) else none).map _ = _
  rw [strLen, strLen, vl_len, vl_len, if_pos (by omega)]
  show some (Sv.fz (.str (SX.S (vl x) ++ SX.S (vl y))), _) = _
  rw [SX.S_cat, ← vl_app]
theorem sl_x {lo hi : Option Int} (h : okX x = true) : slS (sF eX x) lo hi = some (sF eX (cutL x lo hi)) := by
  have := okX_le h
  have h9 := line6
  show (if (⟨(vl x).toArray⟩ : Str).length ≤ sizeLine then some (Sv.fz (.str (cutS ⟨(vl x).toArray⟩ lo hi))) else none) = _
  rw [strLen, vl_len, if_pos (by omega)]
  have e : cutS ⟨(vl x).toArray⟩ lo hi = ⟨(vl (cutL x lo hi)).toArray⟩ := by
    unfold cutS
    rw [strLen]
    show (⟨(cutL (vl x) lo hi).toArray⟩ : Str) = _
    unfold vl
    rw [cutL_map]
  rw [e]
theorem g_lst_x (h : okX x = true) : gListS [sF eX x] = some (sL (sF eX) (chs x), [sF eX x]) := by
  have := okX_le h
  have h9 := line6
  have e : signs ⟨(vl x).toArray⟩ = (chs x).map eX := by
    unfold signs chs vl
    rw [List.map_map, List.map_map]
    rfl
  show (if (vl x).toArray.size ≤ sizeLine then some (Sv.lst ((signs ⟨(vl x).toArray⟩).map .fz)) else none).map _ = _
  rw [List.size_toArray, vl_len, if_pos (by omega), e, map_fz]
  rfl
/-! ### split, partition, index, join -/
def spl1 (c : Sg) : Wd → List Wd
  | [] => [[]]
  | d :: r => if d = c then [] :: spl1 c r else match spl1 c r with
    | [] => [[d]]
    | p :: ps => (d :: p) :: ps
def par1 (c : Sg) : Wd → Option (Wd × Wd)
  | [] => none
  | d :: r => if d = c then some ([], r) else (par1 c r).map fun p => (d :: p.1, p.2)
theorem spl1_ne (c : Sg) : ∀ x, ∃ p ps, spl1 c x = p :: ps
  | [] => ⟨_, _, rfl⟩
  | d :: r => by
    unfold spl1
    obtain ⟨p, ps, e⟩ := spl1_ne c r
    by_cases h : d = c
    · rw [if_pos h]; exact ⟨_, _, rfl⟩
    · rw [if_neg h, e]; exact ⟨_, _, rfl⟩
theorem pre1 (c d : Nat) (r : List Nat) : TL.pre [c] (d :: r) = decide (d = c) := by
  by_cases h : d = c
  · subst h
    rw [decide_eq_true rfl]
    exact TL.pre_self [d] r
  · rw [decide_eq_false h]
    exact TL.pre_of_head [] r h
theorem spl_tl (c : Sg) : ∀ (x : Wd) (acc : List Nat), ∃ p ps, spl1 c x = p :: ps ∧ TL.spl [c.val] 0 acc (vl x) = (acc ++ vl p) :: ps.map vl
  | [], acc => ⟨[], [], rfl, by show TL.spl _ _ _ [] = _; rw [TL.spl_nil]; simp [vl]⟩
  | d :: r, acc => by
    by_cases h : d = c
    · subst h
      obtain ⟨p, ps, e1, e2⟩ := spl_tl d r []
      refine ⟨[], spl1 d r, by rw [spl1, if_pos rfl], ?_⟩
      show TL.spl [d.val] 0 acc (d.val :: vl r) = _
      rw [TL.spl_hit (by rw [pre1]; exact decide_eq_true rfl)]
      show acc :: TL.spl [d.val] 0 [] (vl r) = _
      rw [e2, e1]
      simp [vl]
    · obtain ⟨p, ps, e1, e2⟩ := spl_tl c r (acc ++ [d.val])
      refine ⟨d :: p, ps, by rw [spl1, if_neg h, e1], ?_⟩
      show TL.spl [c.val] 0 acc (d.val :: vl r) = _
      rw [TL.spl_miss (by rw [pre1]; exact decide_eq_false fun z => h (Fin.ext z)), e2]
      simp [vl]
theorem par_tl (c : Sg) : ∀ (x : Wd) (acc : List Nat), TL.par [c.val] acc (vl x) = (par1 c x).map fun p => (acc ++ vl p.1, vl p.2)
  | [], acc => rfl
  | d :: r, acc => by
    by_cases h : d = c
    · subst h
      show TL.par [d.val] acc (d.val :: vl r) = _
      rw [TL.par_hit (by rw [pre1]; exact decide_eq_true rfl), par1, if_pos rfl]
      simp [vl]
    · show TL.par [c.val] acc (d.val :: vl r) = _
      rw [TL.par_miss (by rw [pre1]; exact decide_eq_false fun z => h (Fin.ext z)), par_tl c r, par1, if_neg h]
      cases par1 c r with
      | none => rfl
      | some p => simp [vl]
theorem vl1 (c : Sg) : (eX [c]) = .str ⟨[c.val].toArray⟩ := rfl
theorem g_split_x {c : Sg} (h : okX x = true) (hc : decide (c.val < 256) = true) : gSplit [sF eX x, sF eX [c]] = some (sL (sF eX) (spl1 c x), [sF eX x, sF eX [c]]) := by
  have := okX_le h
  have h9 := line6
  show (if ((⟨[c.val].toArray⟩ : Str).length == 0) = false ∧ (⟨(vl x).toArray⟩ : Str).length + 2 ≤ sizeLine then some (Sv.lst (((Txt.split ⟨(vl x).toArray⟩ ⟨[c.val].toArray⟩).map Dt.str).map .fz)) else none).map _ = _
  rw [strLen, strLen, vl_len, if_pos ⟨rfl, by omega⟩]
  have e := SX.split_S (a := vl x) (b := [c.val]) (by simp) (by rw [List.all_cons, hc]; rfl)
  have e : Txt.split ⟨(vl x).toArray⟩ ⟨[c.val].toArray⟩ = (TL.spl [c.val] 0 [] (vl x)).map SX.S := e
  obtain ⟨p, ps, e1, e2⟩ := spl_tl c x []
  rw [e, e2, e1]
  show some (Sv.lst _, _) = _
  rw [← map_fz]
  simp [vl]
def parX (c : Sg) (x : Wd) : Wd × Wd × Wd := match par1 c x with
  | some p => (p.1, [c], p.2)
  | none => (x, [], [])
theorem g_part_x {c : Sg} (h : okX x = true) : gPart [sF eX x, sF eX [c]] = some (sF (e3 eX eX eX) (parX c x), [sF eX x, sF eX [c]]) := by
  have := okX_le h
  have h9 := line6
  show (if ((⟨[c.val].toArray⟩ : Str).length == 0) = false ∧ (⟨(vl x).toArray⟩ : Str).length ≤ sizeLine then some (Sv.fz (.tup [.str (Txt.partition (SX.S (vl x)) (SX.S [c.val])).1, .str (Txt.partition (SX.S (vl x)) (SX.S [c.val])).2.1, .str (Txt.partition (SX.S (vl x)) (SX.S [c.val])).2.2])) else none).map _ = _
  rw [strLen, strLen, vl_len, if_pos ⟨rfl, by omega⟩]
  have e := par_tl c x []
  unfold parX
  cases q : par1 c x with
  | none =>
    rw [q] at e
    rw [SX.partition_none (by simp) e]
    rfl
  | some p =>
    rw [q] at e
    rw [SX.partition_some (by simp) e]
    rfl
def idxO (c : Sg) (x : Wd) : Option Int := (par1 c x).map fun p => (p.1.length : Int)
theorem par1_spec (c : Sg) : ∀ (x : Wd) (p : Wd × Wd), par1 c x = some p → x = p.1 ++ c :: p.2 ∧ c ∉ p.1
  | [], p, h => nomatch h
  | d :: r, p, h => by
    by_cases q : d = c
    · rw [par1, if_pos q] at h
      cases h
      exact ⟨by rw [q]; rfl, by simp⟩
    · rw [par1, if_neg q] at h
      obtain ⟨p2, h1, rfl⟩ := Option.map_eq_some_iff.mp h
      obtain ⟨h2, h3⟩ := par1_spec c r p2 h1
      exact ⟨by rw [h2]; rfl, fun z => by
        rcases List.mem_cons.mp z with z | z
        · exact q z.symm
        · exact h3 z⟩
theorem g_idx_x {c : Sg} {j : Int} (h : idxO c x = some j) : gIndex [sF eX x, sF eX [c]] = some (sF eI j, [sF eX x, sF eX [c]]) := by
  obtain ⟨p, hp, rfl⟩ := Option.map_eq_some_iff.mp h
  obtain ⟨hx, hn⟩ := par1_spec c x p hp
  have hd : ∀ k, (vl x).drop k = vl (x.drop k) := fun k => by unfold vl; rw [List.map_drop]
  have hne : TL.tl (SX.S [c.val]) ≠ [] := by simp [TL.tl]
  have at_ : ∀ k, PySem.StrLaws.At (SX.S (vl x)) (SX.S [c.val]) (SX.S (vl x)).length k ↔ TL.pre [c.val] ((vl x).drop k) = true := fun k => TL.at_iff hne k
  have ahead : ∀ k, k < p.1.length → ¬ PySem.StrLaws.At (SX.S (vl x)) (SX.S [c.val]) (SX.S (vl x)).length k := fun k hk z => by
    have z := (at_ k).mp z
    have hk2 : k < x.length := by rw [hx, List.length_append]; omega
    rw [hd, List.drop_eq_getElem_cons hk2] at z
    have z : TL.pre [c.val] ((x[k]).val :: vl (x.drop (k + 1))) = true := z
    rw [pre1] at z
    have z := Fin.ext (of_decide_eq_true z)
    have e : x[k] = p.1[k] := by
      have : x[k]? = p.1[k]? := by rw [hx, List.getElem?_append_left hk]
      rw [List.getElem?_eq_getElem hk2, List.getElem?_eq_getElem hk] at this
      exact Option.some.inj this
    exact hn (by rw [← z, e]; exact List.getElem_mem hk)
  have here : PySem.StrLaws.At (SX.S (vl x)) (SX.S [c.val]) (SX.S (vl x)).length p.1.length := (at_ _).mpr (by
    rw [hd, hx, List.drop_left]
    exact TL.pre_self [c.val] (vl p.2))
  rcases PySem.StrLaws.occ_head (SX.S (vl x)) (SX.S [c.val]) 1 (Nat.le_refl _) with ⟨_, h2⟩ | ⟨i, r, h1, h2, h3⟩
  · exact absurd here (h2 _)
  · have : i = p.1.length := by
      rcases Nat.lt_trichotomy i p.1.length with z | z | z
      · exact absurd h2 (ahead i z)
      · exact z
      · exact absurd here (h3 _ z)
    subst this
    show (match Builtin.Str.occurrences (SX.S (vl x)) (SX.S [c.val]) 0 (SX.S (vl x)).length 1 with
      | i :: _ => some (Sv.fz (.int (i : Nat)))
      | [] => none).map _ = _
    rw [h1]
    rfl
def joinX (a : Wd) : List Wd → Wd
  | [] => []
  | [p] => p
  | p :: q :: r => p ++ (a ++ joinX a (q :: r))
theorem joinX_tl (a : Wd) : ∀ ys : List Wd, TL.joinL (vl a) (ys.map vl) = vl (joinX a ys)
  | [] => rfl
  | [_] => rfl
  | p :: q :: r => by
    show vl p ++ (vl a ++ TL.joinL (vl a) ((q :: r).map vl)) = vl (p ++ (a ++ joinX a (q :: r)))
    rw [joinX_tl a (q :: r), vl_app, vl_app]
def lenAll (ys : List Wd) : Nat := (ys.map List.length).sum
def okJ (a : Wd) (ys : List Wd) : Bool := decide (lenAll ys + ys.length * a.length ≤ 16777216)
theorem strsD_e : ∀ ys : List Wd, strsD (ys.map eX) = some (ys.map fun y => SX.S (vl y))
  | [] => rfl
  | y :: ys => by
    show (strsD (ys.map eX)).map _ = _
    rw [strsD_e ys]
    rfl
theorem g_join_x {ys : List Wd} {u : Sv} (hu : elemsLT u = some (ys.map eX)) (h : okJ a ys = true) : gJoin [sF eX a, u] = some (sF eX (joinX a ys), [sF eX a, u]) := by
  have h := of_decide_eq_true h
  unfold lenAll at h
  show (jnS (.fz (.str (SX.S (vl a)))) u).map _ = _
  unfold jnS
  simp only
  rw [hu]
  show ((strsD (ys.map eX)).bind _).map _ = _
  rw [strsD_e]
  have e1 : (ys.map fun y => SX.S (vl y)).map (·.length) = ys.map List.length := by
    rw [List.map_map]
    apply List.map_congr_left
    intro y _
    show (SX.S (vl y)).length = y.length
    rw [SX.S_len, vl_len]
  show (if ((ys.map fun y => SX.S (vl y)).map (·.length)).sum + (ys.map fun y => SX.S (vl y)).length * (SX.S (vl a)).length ≤ 16777216 then some (Sv.fz (.str (Txt.join (SX.S (vl a)) (ys.map fun y => SX.S (vl y))))) else none).map _ = _
  rw [e1, List.length_map, SX.S_len, vl_len, if_pos h]
  have e2 : (ys.map fun y => SX.S (vl y)) = (ys.map vl).map SX.S := by rw [List.map_map]; rfl
  rw [e2, SX.join_S, joinX_tl]
  rfl
end
/-! ### the laws' own comparison -/
section
variable {nn : Bool}
theorem eqD_x (x y : Wd) : eqD (eX x) (eX y) = some (decide (x = y)) := by
  unfold eqD
  rw [okE (e := eX) (by decide) x, okE (e := eX) (by decide) y, eqE x y]
  rfl
instance : SamE nn 0 eX where
  same k s t x y _ hs ht _ := by
    obtain rfl := scal hs fun _ z => nomatch z
    obtain rfl := scal ht fun _ z => nomatch z
    have h := eqD_x x y
    cases nn <;> simp [fSame, bSame, hSame, kSame, nSame, rB, subT, gIsN, isNonS, h]
instance : SamN eX where
  non k s x hs := by
    obtain rfl := scal hs fun _ z => nomatch z
    simp [fSame, bSame, hSame, kSame, nSame, rB, subT, gIsN, isNonS]
  nonr k s x hs := by
    obtain rfl := scal hs fun _ z => nomatch z
    simp [fSame, bSame, hSame, kSame, nSame, rB, subT, gIsN, isNonS]
end
end Fw
namespace Fw
open PySem PySem.Spec PyProof.Rows L2
/-- always a tuple -/
class TupE {α : Type} (e : α → Dt) : Prop where
  tup : ∀ x, ∃ ds, e x = .tup ds
instance {α : Type} {e : α → Dt} : TupE (eT e) := ⟨fun _ => ⟨_, rfl⟩⟩
instance {α β : Type} {a : α → Dt} {b : β → Dt} : TupE (e2 a b) := ⟨fun _ => ⟨_, rfl⟩⟩
theorem instSamOF {α : Type} [DecidableEq α] {n m : Nat} {e : α → Dt} [j : SamE false n e] [q : EqE m e] [t : TupE e] (l : m ≤ 64) : SamE false n (eO e) where
  same k s u x y hk hs ht ho := by
    cases x with
    | none =>
      obtain rfl := scal hs fun _ z => nomatch z
      cases y with
      | none =>
        obtain rfl := scal ht fun _ z => nomatch z
        have h : eqD .non .non = some true := rfl
        simp [fSame, bSame, hSame, kSame, nSame, rB, subT, gIsN, isNonS, h]
      | some y =>
        obtain ⟨ds, e1⟩ := t.tup y
        have ht : datOf u = some (e y) := ht
        rw [e1] at ht
        obtain rfl := scal ht fun _ z => nomatch z
        simp [fSame, bSame, hSame, kSame, nSame, rB, subT, gIsN, isNonS]
    | some x =>
      cases y with
      | none =>
        obtain rfl := scal ht fun _ z => nomatch z
        have ht : datOf s = some (e x) := hs
        obtain ⟨ds, e1⟩ := t.tup x
        rw [e1] at ht
        obtain rfl := scal ht fun _ z => nomatch z
        have h : m ≤ 64 → eqD (.tup ds) .non = some false := fun hm => by
          unfold eqD
          rw [← e1, okE (e := e) hm x, e1]
          rfl
        have h := h l
        simp [fSame, bSame, hSame, kSame, nSame, rB, subT, gIsN, isNonS, h]
      | some y =>
        have := j.same k s u x y hk hs ht ho
        rw [this]
        simp [rB]
instance {α β : Type} [DecidableEq α] [DecidableEq β] {n : Nat} {a : α → Dt} {b : β → Dt} [j : SamE false n (e2 a b)] [q : EqE 0 a] [r : EqE 1 b] : SamE false n (eO (e2 a b)) := instSamOF (m := 0 + 1 + 1) (by decide)
example : SamE false 2 (eO (e2 eX (eT eX))) := inferInstance
example : SamE false 2 (eL (e2 eI eX)) := inferInstance
theorem cx {d : Dt} {x : Wd} {E : Env} (h : d = eX x) : eC d E = .ok (.v (sF eX x), E) := by subst h; rfl
abbrev eK : Sg → Dt := fun c => eX [c]
theorem it_x {x : Wd} : one elems [sF eX x] = some (x.map eK) := by
  show some (signs ⟨(vl x).toArray⟩) = _
  unfold signs vl
  rw [List.map_map]
  rfl
theorem in_x {c : Sg} {y : Wd} {ii : Decidable (c ∈ y)} : inD (eX [c]) (eX y) = some (@decide (c ∈ y) ii) := by
  show (if (⟨(vl [c]).toArray⟩ : Str).cps.size = 1 then some (decide ((⟨(vl [c]).toArray⟩ : Str).cps.getD 0 0 ∈ (vl y))) else none) = _
  rw [if_pos (show (⟨(vl [c]).toArray⟩ : Str).cps.size = 1 from rfl)]
  congr 1
  show decide (c.val ∈ y.map Fin.val) = _
  have e : (c.val ∈ y.map Fin.val) ↔ c ∈ y := by
    rw [List.mem_map]
    constructor
    · rintro ⟨d, h1, h2⟩; rw [← Fin.ext h2]; exact h1
    · intro h; exact ⟨c, h, rfl⟩
  by_cases q : c ∈ y
  · rw [decide_eq_true (e.mpr q)]; exact (decide_eq_true q).symm
  · rw [decide_eq_false fun z => q (e.mp z)]; exact (decide_eq_false q).symm
end Fw
set_option Elab.async false
set_option linter.all false
set_option maxRecDepth 100000
set_option maxHeartbeats 1000000
/-! Words: plain facts about texts, no program in sight. -/
namespace Kx
open PySem PySem.Spec PyProof.Rows L2 Fw
variable {α : Type}
theorem okx {x : Wd} {n : Nat} (h : x.length ≤ n) (hn : n ≤ 1000000 := by omega) : okX x = true := decide_eq_true (Nat.le_trans h hn)
theorem cut_to {xs : List α} {i : Nat} (h : i ≤ xs.length) : cutL xs none (some (i : Int)) = xs.take i := by
  unfold cutL
  rw [HT.sIx_nat, HT.sIx_none, Nat.min_eq_left h, List.drop_zero, Nat.sub_zero]
theorem cut_from {xs : List α} {i : Nat} : cutL xs (some (i : Int)) none = xs.drop i := by
  unfold cutL
  rw [HT.sIx_nat, HT.sIx_none]
  by_cases h : i ≤ xs.length
  · rw [Nat.min_eq_left h, List.take_of_length_le (by rw [List.length_drop]; omega)]
  · rw [Nat.min_eq_right (by omega), List.drop_length, List.drop_eq_nil_of_le (by omega)]; simp
theorem cut_mid {xs : List α} {i j : Nat} (h1 : i ≤ xs.length) (h2 : j ≤ xs.length) : cutL xs (some (i : Int)) (some (j : Int)) = (xs.drop i).take (j - i) := by
  unfold cutL
  rw [HT.sIx_nat, HT.sIx_nat, Nat.min_eq_left h1, Nat.min_eq_left h2]
theorem cut_m1 {xs : List α} {x : α} : cutL (xs ++ [x]) none (some (-1)) = xs := by
  unfold cutL
  rw [HT.sIx_none]
  have e : HT.sIx (xs ++ [x]).length (xs ++ [x]).length (some (-1)) = xs.length := by
    show (if (-1 : Int) < 0 then ((-1 : Int) + ((xs ++ [x]).length : Int)).toNat else min (-1 : Int).toNat (xs ++ [x]).length) = _
    rw [if_pos (by decide), List.length_append, List.length_singleton]
    omega
  rw [e, List.drop_zero, Nat.sub_zero, List.take_left]
theorem cut_len {xs : List α} {lo hi : Option Int} : (cutL xs lo hi).length ≤ xs.length := by
  unfold cutL
  rw [List.length_take, List.length_drop]
  omega
theorem at_last {xs : List α} {x : α} : atI (xs ++ [x]) (-1) = some x := by
  rw [atI_m1 (by simp)]
  simp
theorem at_len {xs : List α} {x : α} : atI (xs ++ [x]) (((xs ++ [x]).length : Int) - 1) = some x := by
  have e : ((xs ++ [x]).length : Int) - 1 = (xs.length : Nat) := by rw [List.length_append, List.length_singleton]; omega
  rw [e]
  exact atI_at (by simp)
theorem set_last {xs : List α} {x y : α} : setO (xs ++ [x]) (((xs ++ [x]).length : Int) - 1) y = some (xs ++ [y]) := by
  have e : ((xs ++ [x]).length : Int) - 1 = (xs.length : Nat) := by rw [List.length_append, List.length_singleton]; omega
  rw [e]
  unfold setO ixN
  rw [if_pos (by omega), if_pos (by rw [List.length_append, List.length_singleton]; omega)]
  show some ((xs ++ [x]).set (xs.length : Int).toNat y) = _
  rw [Int.toNat_natCast]
  simp
/-- no sign outside: all inside -/
theorem filter_nil (p : Sg → Bool) (x : Wd) : decide (List.map (fun c => [c]) (List.filter (fun c => !p c) x) = []) = List.all (List.map p x) id := by
  induction x with
  | nil => rfl
  | cons c x ih =>
    cases h : p c with
    | true => simpa [h] using ih
    | false => simp [h]
/-- the parts, as a loop lays them -/
theorem spl_len (c : Sg) : ∀ x : Wd, (spl1 c x).length ≤ x.length + 1 ∧ ∀ p ∈ spl1 c x, p.length ≤ x.length
  | [] => ⟨Nat.le_refl _, by simp [spl1]⟩
  | d :: r => by
    obtain ⟨h1, h2⟩ := spl_len c r
    obtain ⟨p, ps, e⟩ := spl1_ne c r
    by_cases h : d = c
    · rw [spl1, if_pos h]
      refine ⟨by simp; omega, fun q hq => ?_⟩
      rcases List.mem_cons.mp hq with rfl | hq
      · simp
      · have := h2 q hq; simp; omega
    · rw [spl1, if_neg h, e]
      rw [e] at h1 h2
      refine ⟨by simpa using Nat.le_succ_of_le h1, fun q hq => ?_⟩
      rcases List.mem_cons.mp hq with rfl | hq
      · have := h2 p (List.mem_cons_self ..); simp; omega
      · have := h2 q (List.mem_cons_of_mem _ hq); simp; omega
/-- a sum of joined lengths -/
theorem lenAll_le {n : Nat} : ∀ {ys : List Wd}, (∀ y ∈ ys, y.length ≤ n) → lenAll ys ≤ ys.length * n
  | [], _ => Nat.zero_le _
  | y :: ys, h => by
    have := lenAll_le fun z hz => h z (List.mem_cons_of_mem _ hz)
    have h1 := h y (List.mem_cons_self ..)
    unfold lenAll at *
    rw [List.map_cons, List.sum_cons, List.length_cons, Nat.succ_mul]
    omega
theorem join_len (a : Wd) : ∀ ys : List Wd, (joinX a ys).length ≤ lenAll ys + ys.length * a.length
  | [] => Nat.zero_le _
  | [p] => by unfold joinX lenAll; simp
  | p :: q :: r => by
    have := join_len a (q :: r)
    unfold lenAll at *
    show (p ++ (a ++ joinX a (q :: r))).length ≤ _
    rw [List.length_append, List.length_append, List.map_cons, List.sum_cons, List.length_cons (a := p), Nat.succ_mul]
    omega
end Kx
set_option Elab.async false
set_option linter.all false
set_option maxRecDepth 100000
set_option maxHeartbeats 400000
namespace K06
open PySem PySem.Spec PyProof.Rows L2 Fw
abbrev top (i : Nat) : Stmt := PySem.Challenge.pw_fewrules_k06_words_names_and_atoms.main.body.getD i (.Pass ⟨0, 0, 0, 0⟩)
abbrev FnP (K : PySem.W.Frag) (x : Str) (st : Stmt) (f : Addr) (fd : FuncData) : Prop := FunD K x x (defArgs st) (defBody st) (defScope st) [] [] f fd
abbrev st_words_of : Stmt := top 5
theorem sc_words_of : FnScope ["line", "found", "column", "word"] ["line"] (defScope st_words_of) := ⟨rfl, rfl, rfl, by decide +kernel, rfl, by decide +kernel, by decide +kernel⟩
noncomputable def l_words_of_1 : Stx :=
  (sSeq (sDrop (eMeth "list" gApp (eRef 1) (aCons (eTup (aCons (eVar 2) (aCons (eVar 3) aNil))) aNil)))
  (sSet 2 (eBin gAdd (eBin gAdd (eRef 2) (eCall gLen (aCons (eRef 3) aNil))) (eC (.int 1)))))
noncomputable def b_words_of : Stx :=
  (sSeq (sSet 1 (eLst aNil))
  (sSeq (sSet 2 (eC (.int 1)))
  (sSeq (sFor (aOne (eMeth "str" gSplit (eRef 0) (aCons (eC (.str " ")) aNil))) (one elems) [true, true, false, false] (gNm 3)
  l_words_of_1)
  (sRet (eMove 1)))))
noncomputable def f_words_of : Fn := fnSem 4 [true] b_words_of
abbrev st_is_name : Stmt := top 6
theorem sc_is_name : FnScope ["word", "char"] ["word"] (defScope st_is_name) := ⟨rfl, rfl, rfl, by decide +kernel, rfl, by decide +kernel, by decide +kernel⟩
noncomputable def x_is_name_1 : Ex :=
  (eBin gIn (eRef 1) (eC (.str "abcdefghijklmnopqrstuvwxyz")))
noncomputable def b_is_name : Stx :=
  (sRet (eAnd (eChain cLe cLe (eC (.int 1)) (eCall gLen (aCons (eRef 0) aNil)) (eC (.int 12))) (eCall gAll (aCons (eLc (aOne (eRef 0)) (one elems) [1] (gNm 1) tYesX x_is_name_1) aNil))))
noncomputable def f_is_name : Fn := fnSem 2 [true] b_is_name
abbrev st_is_numeral : Stmt := top 7
theorem sc_is_numeral : FnScope ["word", "char"] ["word"] (defScope st_is_numeral) := ⟨rfl, rfl, rfl, by decide +kernel, rfl, by decide +kernel, by decide +kernel⟩
noncomputable def x_is_numeral_1 : Ex :=
  (eBin gIn (eRef 1) (eC (.str "0123456789")))
noncomputable def b_is_numeral : Stx :=
  (sSeq (sIf (tOrX (tNotX (tBl (eChain cLe cLe (eC (.int 1)) (eCall gLen (aCons (eRef 0) aNil)) (eC (.int 9))))) (tNotX (tOf (eCall gAll (aCons (eLc (aOne (eRef 0)) (one elems) [1] (gNm 1) tYesX x_is_numeral_1) aNil))))) (sRet (eC (.bl false))) sNext)
  (sRet (eOr (eBin gEq (eRef 0) (eC (.str "0"))) (eBin gNe (eBin gIx (eRef 0) (eC (.int 0))) (eC (.str "0"))))))
noncomputable def f_is_numeral : Fn := fnSem 2 [true] b_is_numeral
abbrev st_atom_of : Stmt := top 8
theorem sc_atom_of : FnScope ["word", "name", "bracket", "rest", "names", "one"] ["word"] (defScope st_atom_of) := ⟨rfl, rfl, rfl, by decide +kernel, rfl, by decide +kernel, by decide +kernel⟩
noncomputable def x_atom_of_1 : Ex :=
  (eFz (eOwn f_is_name (aCons (eRef 5) aNil)))
noncomputable def b_atom_of : Stx :=
  (sSeq (sUnp (gTp ((gNm 1) :: ((gNm 2) :: ((gNm 3) :: [])))) (eMeth "str" gPart (eRef 0) (aCons (eC (.str "(")) aNil)))
  (sSeq (sIf (tOrX (tBl (eBin gEq (eRef 2) (eC (.str "")))) (tOrX (tBl (eBin gEq (eRef 3) (eC (.str "")))) (tBl (eBin gNe (eBin gIx (eRef 3) (eUn gNeg (eC (.int 1)))) (eC (.str ")")))))) (sRet (eC .non)) sNext)
  (sSeq (sSet 4 (eMeth "str" gSplit (eSl (eRef 3) pNo (pAt (eUn gNeg (eC (.int 1))))) (aCons (eC (.str ",")) aNil)))
  (sSeq (sIf (tOrX (tNotX (tOf (eOwn f_is_name (aCons (eRef 1) aNil)))) (tNotX (tOf (eCall gAll (aCons (eLc (aOne (eRef 4)) (one elems) [5] (gNm 5) tYesX x_atom_of_1) aNil))))) (sRet (eC .non)) sNext)
  (sRet (eTup (aCons (eVar 1) (aCons (eCall gTuple (aCons (eRef 4) aNil)) aNil))))))))
noncomputable def f_atom_of : Fn := fnSem 6 [true] b_atom_of
abbrev st__law_draws : Stmt := top 10
theorem sc__law_draws : FnScope ["script", "draws", "cell", "number", "first", "k", "seed"] ["script"] (defScope st__law_draws) := ⟨rfl, rfl, rfl, by decide +kernel, rfl, by decide +kernel, by decide +kernel⟩
noncomputable def l__law_draws_1 : Stx :=
  (sIf (tBl (eBin gGt (eRef 3) (eC (.int 0)))) (sSeq (sDrop (eMeth "list" gApp (eRef 1) (aCons (eBin gMod (eCall gInt (aCons (eRef 3) aNil)) (eC (.int 997))) aNil)))
  (sSet 3 (eBin gDiv (eRef 3) (eC (.int 997))))) sNext)
noncomputable def l__law_draws_2 : Stx :=
  (sSeq (sSet 3 (eCall gAbs (aCons (eRef 2) aNil)))
  (sSeq (sIf (tBl (eBin gLt (eRef 3) (eBin gPow (eC (.int 10)) (eC (.int 18))))) (sSeq (sSet 4 (eBin gMod (eCall gInt (aCons (eBin gAdd (eBin gMul (eRef 3) (eC (.int 48271))) (eC (.int 11))) aNil)) (eC (.int 2147483647))))
  (sSeq (sDrop (eMeth "list" gApp (eRef 1) (aCons (eBin gMod (eCall gInt (aCons (eBin gAdd (eBin gMul (eRef 4) (eC (.int 69621))) (eRef 3)) aNil)) (eC (.int 2147483629))) aNil)))
  (sSeq (sDrop (eMeth "list" gApp (eRef 1) (aCons (eBin gMod (eCall gInt (aCons (eBin gAdd (eRef 4) (eBin gDiv (eRef 3) (eC (.int 7)))) aNil)) (eC (.int 1000003))) aNil)))
  (sSet 3 (eC (.int 0)))))) sNext)
  (sFor (aCons (eC (.int 60)) aNil) gR1 [true, true, true, false, true, false, true] (gNm 5)
  l__law_draws_1)))
noncomputable def l__law_draws_3 : Stx :=
  (sSeq (sSet 6 (eBin gMod (eCall gInt (aCons (eBin gAdd (eBin gMul (eRef 6) (eC (.int 48271))) (eC (.int 69621))) aNil)) (eC (.int 2147483647))))
  (sDrop (eMeth "list" gApp (eRef 1) (aCons (eBin gDiv (eRef 6) (eC (.int 5))) aNil))))
noncomputable def b__law_draws : Stx :=
  (sSeq (sSet 1 (eLst aNil))
  (sSeq (sFor (aOne (eRef 0)) (one elems) [true, true, false, false, false, false, true] (gNm 2)
  l__law_draws_2)
  (sSeq (sSet 6 (eC (.int 1)))
  (sSeq (sIf (tBl (eBin gGt (eCall gLen (aCons (eRef 0) aNil)) (eC (.int 0)))) (sSet 6 (eBin gAdd (eC (.int 1)) (eCall gAbs (aCons (eBin gIx (eRef 0) (eC (.int 0))) aNil)))) sNext)
  (sSeq (sFor (aCons (eC (.int 160)) aNil) gR1 [true, true, true, true, true, false, false] (gNm 5)
  l__law_draws_3)
  (sRet (eUn gLstRev (eRef 1))))))))
noncomputable def f__law_draws : Fn := fnSem 7 [true] b__law_draws
abbrev st__law_take : Stmt := top 11
theorem sc__law_take : FnScope ["draws", "bound"] ["draws", "bound"] (defScope st__law_take) := ⟨rfl, rfl, rfl, by decide +kernel, rfl, by decide +kernel, by decide +kernel⟩
noncomputable def b__law_take : Stx :=
  (sSeq (sIf (tBl (eBin gEq (eCall gLen (aCons (eRef 0) aNil)) (eC (.int 0)))) (sRet (eC (.int 0))) sNext)
  (sRet (eBin gMod (eCall gInt (aCons (eMeth0 "list" gPop (eRef 0)) aNil)) (eRef 1))))
noncomputable def f__law_take : Fn := fnSem 2 [true, true] b__law_take
abbrev st__law_same : Stmt := top 12
theorem sc__law_same : FnScope ["value", "due", "k"] ["value", "due"] (defScope st__law_same) := ⟨rfl, rfl, rfl, by decide +kernel, rfl, by decide +kernel, by decide +kernel⟩
noncomputable def l__law_same_1 (self : Fn) : Stx :=
  (sIf (tNotX (tOf (eOwn self (aCons (eBin gIx (eRef 0) (eRef 2)) (aCons (eBin gIx (eRef 1) (eRef 2)) aNil))))) (sRet (eC (.bl false))) sNext)
noncomputable def b__law_same (self : Fn) : Stx :=
  (sSeq (sIf (tOrX (tOf (eUn (gIsi "tuple") (eRef 1))) (tOf (eUn (gIsi "list") (eRef 1)))) (sSeq (sIf (tOrX (tBl (eBin gNe (eUn (gIsi "tuple") (eRef 1)) (eUn (gIsi "tuple") (eRef 0)))) (tBl (eBin gNe (eUn (gIsi "list") (eRef 1)) (eUn (gIsi "list") (eRef 0))))) (sRet (eC (.bl false))) sNext)
  (sSeq (sIf (tBl (eBin gNe (eCall gLen (aCons (eRef 0) aNil)) (eCall gLen (aCons (eRef 1) aNil)))) (sRet (eC (.bl false))) sNext)
  (sSeq (sFor (aCons (eCall gLen (aCons (eRef 1) aNil)) aNil) gR1 [true, true, false] (gNm 2)
  (l__law_same_1 self))
  (sRet (eC (.bl true)))))) sNext)
  (sSeq (sIf (tBl (eBin gNe (eUn (gIsi "bool") (eRef 1)) (eUn (gIsi "bool") (eRef 0)))) (sRet (eC (.bl false))) sNext)
  (sSeq (sIf (tOrX (tBl (eBin gNe (eUn (gIsi "int") (eRef 1)) (eUn (gIsi "int") (eRef 0)))) (tBl (eBin gNe (eUn (gIsi "str") (eRef 1)) (eUn (gIsi "str") (eRef 0))))) (sRet (eC (.bl false))) sNext)
  (sRet (eBin gEq (eRef 0) (eRef 1))))))
noncomputable def f__law_same : Nat → Fn
  | 0 => fnSem 3 [true, true] fun _ => .bad
  | k + 1 => fnSem 3 [true, true] (b__law_same (f__law_same k))
abbrev st__law_pick : Stmt := top 13
theorem sc__law_pick : FnScope ["draws", "items"] ["draws", "items"] (defScope st__law_pick) := ⟨rfl, rfl, rfl, by decide +kernel, rfl, by decide +kernel, by decide +kernel⟩
noncomputable def b__law_pick : Stx :=
  (sRet (eBin gIx (eRef 1) (eOwn f__law_take (aCons (eRef 0) (aCons (eCall gLen (aCons (eRef 1) aNil)) aNil)))))
noncomputable def f__law_pick : Fn := fnSem 2 [true, true] b__law_pick
abbrev st__law_name : Stmt := top 14
theorem sc__law_name : FnScope ["word", "char"] ["word"] (defScope st__law_name) := ⟨rfl, rfl, rfl, by decide +kernel, rfl, by decide +kernel, by decide +kernel⟩
noncomputable def t__law_name_1 : Tx :=
  (tBl (eBin gNotIn (eRef 1) (eC (.str "abcdefghijklmnopqrstuvwxyz"))))
noncomputable def x__law_name_2 : Ex :=
  (eVar 1)
noncomputable def b__law_name : Stx :=
  (sRet (eAnd (eChain cLe cLe (eC (.int 1)) (eCall gLen (aCons (eRef 0) aNil)) (eC (.int 12))) (eBin gEq (eLc (aOne (eRef 0)) (one elems) [1] (gNm 1) t__law_name_1 x__law_name_2) (eLst aNil))))
noncomputable def f__law_name : Fn := fnSem 2 [true] b__law_name
abbrev st__law_numeral : Stmt := top 15
theorem sc__law_numeral : FnScope ["word", "char"] ["word"] (defScope st__law_numeral) := ⟨rfl, rfl, rfl, by decide +kernel, rfl, by decide +kernel, by decide +kernel⟩
noncomputable def t__law_numeral_1 : Tx :=
  (tBl (eBin gNotIn (eRef 1) (eC (.str "0123456789"))))
noncomputable def x__law_numeral_2 : Ex :=
  (eVar 1)
noncomputable def b__law_numeral : Stx :=
  (sSeq (sIf (tOrX (tNotX (tBl (eChain cLe cLe (eC (.int 1)) (eCall gLen (aCons (eRef 0) aNil)) (eC (.int 9))))) (tBl (eBin gNe (eLc (aOne (eRef 0)) (one elems) [1] (gNm 1) t__law_numeral_1 x__law_numeral_2) (eLst aNil)))) (sRet (eC (.bl false))) sNext)
  (sRet (eOr (eBin gEq (eRef 0) (eC (.str "0"))) (eBin gNe (eBin gIx (eRef 0) (eC (.int 0))) (eC (.str "0"))))))
noncomputable def f__law_numeral : Fn := fnSem 2 [true] b__law_numeral
abbrev st__law_parted : Stmt := top 16
theorem sc__law_parted : FnScope ["text", "sign", "found", "char"] ["text", "sign"] (defScope st__law_parted) := ⟨rfl, rfl, rfl, by decide +kernel, rfl, by decide +kernel, by decide +kernel⟩
noncomputable def l__law_parted_1 : Stx :=
  (sIf (tBl (eBin gEq (eRef 3) (eRef 1))) (sDrop (eMeth "list" gApp (eRef 2) (aCons (eC (.str "")) aNil))) (sStI 2 (eBin gSub (eCall gLen (aCons (eRef 2) aNil)) (eC (.int 1))) (eFz (eBin gAdd (eBin gIx (eRef 2) (eBin gSub (eCall gLen (aCons (eRef 2) aNil)) (eC (.int 1)))) (eRef 3)))))
noncomputable def b__law_parted : Stx :=
  (sSeq (sSet 2 (eLst (aCons (eC (.str "")) aNil)))
  (sSeq (sFor (aOne (eRef 0)) (one elems) [true, true, true, false] (gNm 3)
  l__law_parted_1)
  (sRet (eMove 2))))
noncomputable def f__law_parted : Fn := fnSem 4 [true, true] b__law_parted
abbrev st__law_written : Stmt := top 17
theorem sc__law_written : FnScope ["word", "place", "names", "name"] ["word"] (defScope st__law_written) := ⟨rfl, rfl, rfl, by decide +kernel, rfl, by decide +kernel, by decide +kernel⟩
noncomputable def t__law_written_1 : Tx :=
  (tNotX (tOf (eOwn f__law_name (aCons (eRef 3) aNil))))
noncomputable def x__law_written_2 : Ex :=
  (eVar 3)
noncomputable def b__law_written : Stx :=
  (sSeq (sIf (tOrX (tBl (eBin gLt (eCall gLen (aCons (eRef 0) aNil)) (eC (.int 4)))) (tOrX (tBl (eBin gNe (eBin gIx (eRef 0) (eBin gSub (eCall gLen (aCons (eRef 0) aNil)) (eC (.int 1)))) (eC (.str ")")))) (tBl (eBin gNotIn (eC (.str "(")) (eRef 0))))) (sRet (eC .non)) sNext)
  (sSeq (sSet 1 (eMeth "str" gIndex (eRef 0) (aCons (eC (.str "(")) aNil)))
  (sSeq (sSet 2 (eOwn f__law_parted (aCons (eSl (eRef 0) (pAt (eBin gAdd (eRef 1) (eC (.int 1)))) (pAt (eBin gSub (eCall gLen (aCons (eRef 0) aNil)) (eC (.int 1))))) (aCons (eC (.str ",")) aNil))))
  (sSeq (sIf (tOrX (tNotX (tOf (eOwn f__law_name (aCons (eSl (eRef 0) pNo (pAt (eVar 1))) aNil)))) (tBl (eBin gNe (eLc (aOne (eRef 2)) (one elems) [3] (gNm 3) t__law_written_1 x__law_written_2) (eLst aNil)))) (sRet (eC .non)) sNext)
  (sRet (eTup (aCons (eFz (eSl (eRef 0) pNo (pAt (eVar 1)))) (aCons (eCall gTuple (aCons (eRef 2) aNil)) aNil))))))))
noncomputable def f__law_written : Fn := fnSem 4 [true] b__law_written
abbrev st__law_word : Stmt := top 18
theorem sc__law_word : FnScope ["draws", "pool", "kind", "names", "word", "place", "change", "k"] ["draws"] (defScope st__law_word) := ⟨rfl, rfl, rfl, by decide +kernel, rfl, by decide +kernel, by decide +kernel⟩
noncomputable def x__law_word_1 : Ex :=
  (eFz (eOwn f__law_pick (aCons (eRef 0) (aCons (eRef 1) aNil))))
noncomputable def x__law_word_2 : Ex :=
  (eFz (eOwn f__law_pick (aCons (eRef 0) (aCons (eCall gListS (aCons (eC (.str "01234567890")) aNil)) aNil))))
noncomputable def x__law_word_3 : Ex :=
  (eFz (eOwn f__law_pick (aCons (eRef 0) (aCons (eCall gListS (aCons (eC (.str "abmz")) aNil)) aNil))))
noncomputable def x__law_word_4 : Ex :=
  (eFz (eOwn f__law_pick (aCons (eRef 0) (aCons (eSl (eRef 1) pNo (pAt (eC (.int 5)))) aNil))))
noncomputable def b__law_word : Stx :=
  (sSeq (sSet 1 (eLst (aCons (eC (.str "a")) (aCons (eC (.str "red")) (aCons (eC (.str "ann")) (aCons (eC (.str "z")) (aCons (eC (.str "abcdefghijkl")) (aCons (eC (.str "abcdefghijklm")) (aCons (eC (.str "0")) (aCons (eC (.str "7")) (aCons (eC (.str "12")) (aCons (eC (.str "123456789")) (aCons (eC (.str "A")) (aCons (eC (.str "_")) (aCons (eC (.str "(")) (aCons (eC (.str ")")) (aCons (eC (.str ",")) (aCons (eC (.str "")) aNil))))))))))))))))))
  (sSeq (sSet 2 (eOwn f__law_take (aCons (eRef 0) (aCons (eC (.int 4)) aNil))))
  (sSeq (sIf (tBl (eBin gEq (eRef 2) (eC (.int 0)))) (sRet (eMeth "str" gJoin (eC (.str "")) (aCons (eLc (aCons (eBin gAdd (eC (.int 1)) (eOwn f__law_take (aCons (eRef 0) (aCons (eC (.int 4)) aNil)))) aNil) gR1 [7] (gNm 7) tYesX x__law_word_1) aNil))) sNext)
  (sSeq (sIf (tBl (eBin gEq (eRef 2) (eC (.int 1)))) (sRet (eMeth "str" gJoin (eC (.str "")) (aCons (eLc (aCons (eBin gAdd (eC (.int 1)) (eOwn f__law_take (aCons (eRef 0) (aCons (eC (.int 11)) aNil)))) aNil) gR1 [7] (gNm 7) tYesX x__law_word_2) aNil))) sNext)
  (sSeq (sIf (tBl (eBin gEq (eRef 2) (eC (.int 2)))) (sRet (eMeth "str" gJoin (eC (.str "")) (aCons (eLc (aCons (eBin gAdd (eC (.int 1)) (eOwn f__law_take (aCons (eRef 0) (aCons (eC (.int 14)) aNil)))) aNil) gR1 [7] (gNm 7) tYesX x__law_word_3) aNil))) sNext)
  (sSeq (sSet 3 (eLc (aCons (eBin gAdd (eC (.int 1)) (eOwn f__law_take (aCons (eRef 0) (aCons (eC (.int 4)) aNil)))) aNil) gR1 [7] (gNm 7) tYesX x__law_word_4))
  (sSeq (sSet 4 (eBin gAdd (eBin gAdd (eBin gAdd (eOwn f__law_pick (aCons (eRef 0) (aCons (eSl (eRef 1) pNo (pAt (eC (.int 5)))) aNil))) (eC (.str "("))) (eMeth "str" gJoin (eC (.str ",")) (aCons (eRef 3) aNil))) (eC (.str ")"))))
  (sSeq (sSet 5 (eOwn f__law_take (aCons (eRef 0) (aCons (eCall gLen (aCons (eRef 4) aNil)) aNil))))
  (sSeq (sSet 6 (eOwn f__law_take (aCons (eRef 0) (aCons (eC (.int 5)) aNil))))
  (sSeq (sIf (tBl (eBin gEq (eRef 6) (eC (.int 0)))) (sSet 4 (eBin gAdd (eSl (eRef 4) pNo (pAt (eVar 5))) (eSl (eRef 4) (pAt (eBin gAdd (eRef 5) (eC (.int 1)))) pNo))) sNext)
  (sSeq (sIf (tBl (eBin gEq (eRef 6) (eC (.int 1)))) (sSet 4 (eBin gAdd (eBin gAdd (eSl (eRef 4) pNo (pAt (eVar 5))) (eOwn f__law_pick (aCons (eRef 0) (aCons (eRef 1) aNil)))) (eSl (eRef 4) (pAt (eVar 5)) pNo))) sNext)
  (sRet (eMove 4)))))))))))))
noncomputable def f__law_word : Fn := fnSem 8 [true] b__law_word
abbrev st_law : Stmt := top 19
theorem sc_law : FnScope ["script", "draws", "words", "word", "line", "k", "due", "column"] ["script"] (defScope st_law) := ⟨rfl, rfl, rfl, by decide +kernel, rfl, by decide +kernel, by decide +kernel⟩
noncomputable def x_law_1 : Ex :=
  (eFz (eOwn f__law_word (aCons (eRef 1) aNil)))
noncomputable def l_law_2 : Stx :=
  (sSeq (sIf (tOrX (tNotX (tOf (eOwn (f__law_same 40) (aCons (eOwn f_is_name (aCons (eRef 3) aNil)) (aCons (eOwn f__law_name (aCons (eRef 3) aNil)) aNil))))) (tNotX (tOf (eOwn (f__law_same 40) (aCons (eOwn f_is_numeral (aCons (eRef 3) aNil)) (aCons (eOwn f__law_numeral (aCons (eRef 3) aNil)) aNil)))))) (sRet (eC (.bl false))) sNext)
  (sIf (tNotX (tOf (eOwn (f__law_same 40) (aCons (eOwn f_atom_of (aCons (eRef 3) aNil)) (aCons (eOwn f__law_written (aCons (eRef 3) aNil)) aNil))))) (sRet (eC (.bl false))) sNext))
noncomputable def l_law_3 : Stx :=
  (sSet 4 (eBin gAdd (eBin gAdd (eBin gAdd (eRef 4) (eOwn f__law_pick (aCons (eRef 1) (aCons (eRef 2) aNil)))) (eSl (eC (.str " ")) pNo (pAt (eOwn f__law_take (aCons (eRef 1) (aCons (eC (.int 2)) aNil)))))) (eSl (eC (.str "  ")) pNo (pAt (eOwn f__law_take (aCons (eRef 1) (aCons (eC (.int 3)) aNil)))))))
noncomputable def l_law_4 : Stx :=
  (sSeq (sDrop (eMeth "list" gApp (eRef 6) (aCons (eTup (aCons (eVar 7) (aCons (eVar 3) aNil))) aNil)))
  (sSet 7 (eBin gAdd (eBin gAdd (eRef 7) (eCall gLen (aCons (eRef 3) aNil))) (eC (.int 1)))))
noncomputable def b_law : Stx :=
  (sSeq (sSet 1 (eOwn f__law_draws (aCons (eRef 0) aNil)))
  (sSeq (sSet 2 (eLst (aCons (eC (.str "")) (aCons (eC (.str "()")) (aCons (eC (.str "a()")) (aCons (eC (.str "a(b)")) (aCons (eC (.str "(b)")) (aCons (eC (.str "a(b)c")) (aCons (eC (.str "a(b))")) (aCons (eC (.str "a((b)")) aNil))))))))))
  (sSeq (sSet 2 (eBin gAdd (eRef 2) (eLc (aCons (eC (.int 8)) aNil) gR1 [5] (gNm 5) tYesX x_law_1)))
  (sSeq (sFor (aOne (eRef 2)) (one elems) [true, true, true, false, true, true, true, true] (gNm 3)
  l_law_2)
  (sSeq (sSet 4 (eC (.str "")))
  (sSeq (sFor (aCons (eOwn f__law_take (aCons (eRef 1) (aCons (eC (.int 6)) aNil))) aNil) gR1 [true, true, true, true, false, false, true, true] (gNm 5)
  l_law_3)
  (sSeq (sSet 6 (eLst aNil))
  (sSeq (sSet 7 (eC (.int 1)))
  (sSeq (sFor (aOne (eOwn f__law_parted (aCons (eRef 4) (aCons (eC (.str " ")) aNil)))) (one elems) [true, true, true, false, true, true, true, false] (gNm 3)
  l_law_4)
  (sRet (eAnd (eOwn (f__law_same 40) (aCons (eOwn f_words_of (aCons (eRef 4) aNil)) (aCons (eRef 6) aNil))) (eOwn (f__law_same 40) (aCons (eOwn f_words_of (aCons (eC (.str "")) aNil)) (aCons (eLst (aCons (eTup (aCons (eC (.int 1)) (aCons (eC (.str "")) aNil))) aNil)) aNil))))))))))))))
noncomputable def f_law : Fn := fnSem 8 [true] b_law
section
variable {P : Program} {w : World} {K : PySem.W.Frag} {mg : Str → Option Value} {base : Heap} {C : Str → Addr}
theorem fk_words_of {f : Addr} {fd : FuncData} (F : FnP K "words_of" st_words_of f fd) (m_len : mg "len" = none)  : FnOk P w K mg base (L2.CX P w) 1 f fd ["line"] (FSp ⟨P, w, K, C⟩ f_words_of) :=
  fn_ok (N := ["line", "found", "column", "word"]) (k := 0) (pin := [true]) (fb := b_words_of) F sc_words_of rfl (by decide) (fun cdv A outer s H E hr => have hu := units65 hr;
  (vb_cons (vs_set sc_words_of.nd rfl (by first | exact .inl rfl | exact .inr rfl) rfl (ve_lst va_nil))
  (vb_cons (vs_set sc_words_of.nd rfl (by first | exact .inl rfl | exact .inr rfl) rfl ve_int)
  (vb_cons (vs_for passes_cx rfl (vi_seq (m_split ve_ref (va_cons ve_str va_nil))) (vg_name sc_words_of.nd rfl (by first | exact .inl rfl | exact .inr rfl) rfl)
  (vb_cons (vs_expr (m_app ve_ref (va_cons (ve_tup (va_cons ve_var (va_cons ve_var va_nil))) va_nil)))
  (vb_one (vs_set sc_words_of.nd rfl (by first | exact .inl rfl | exact .inr rfl) rfl (n_add (n_add ve_ref (c_len m_len (va_cons ve_ref va_nil))) ve_int)))) (pp_of rfl))
  (vb_one (vs_ret ve_move))))))
theorem ok_words_of {f : Addr} {fd : FuncData} (F : FnP K "words_of" st_words_of f fd) (m_len : mg "len" = none)  (g : mg "words_of" = some (.ref f)) : OwnD P w K mg base C "words_of" 1 f_words_of :=
  ⟨f, fd, ["line"], fk_words_of F m_len , g, F.kp, F.bindsN fun _ _ _ _ _ _ us hl => match us, hl with | [_], _ => rfl⟩
theorem fk_is_name {f : Addr} {fd : FuncData} (F : FnP K "is_name" st_is_name f fd) (m_LETTERS : ∃ t, mg "LETTERS" = some (.str "abcdefghijklmnopqrstuvwxyz" t)) (m_MOST_LETTERS : ∃ t, mg "MOST_LETTERS" = some (.int 12 t)) (m_all : mg "all" = none) (m_len : mg "len" = none)  : FnOk P w K mg base (L2.CX P w) 1 f fd ["word"] (FSp ⟨P, w, K, C⟩ f_is_name) :=
  fn_ok (N := ["word", "char"]) (k := 0) (pin := [true]) (fb := b_is_name) F sc_is_name rfl (by decide) (fun cdv A outer s H E hr => have hu := units65 hr;
  (vb_one (vs_ret (ve_and (ve_chain op_le op_le srv_le srv_le ve_int (c_len m_len (va_cons ve_ref va_nil)) (ve_gint_x m_MOST_LETTERS)) (ve_one (c_all rfl m_all (va_cons (ve_lc (own := [("char", 1)]) rfl sc_is_name.nd (vi_seq ve_ref) (blk_of (by kernel_rfl!)) (by decide) (fun _ _ _ _ _ => (vg_name sc_is_name.nd rfl (by first | exact .inl rfl | exact .inr rfl) rfl)) (fun _ _ _ _ _ => vts_nil) (fun _ _ _ _ _ => (n_in hu ve_ref (ve_gstr_x m_LETTERS)))) va_nil)))))))
theorem ok_is_name {f : Addr} {fd : FuncData} (F : FnP K "is_name" st_is_name f fd) (m_LETTERS : ∃ t, mg "LETTERS" = some (.str "abcdefghijklmnopqrstuvwxyz" t)) (m_MOST_LETTERS : ∃ t, mg "MOST_LETTERS" = some (.int 12 t)) (m_all : mg "all" = none) (m_len : mg "len" = none)  (g : mg "is_name" = some (.ref f)) : OwnD P w K mg base C "is_name" 1 f_is_name :=
  ⟨f, fd, ["word"], fk_is_name F m_LETTERS m_MOST_LETTERS m_all m_len , g, F.kp, F.bindsN fun _ _ _ _ _ _ us hl => match us, hl with | [_], _ => rfl⟩
theorem fk_is_numeral {f : Addr} {fd : FuncData} (F : FnP K "is_numeral" st_is_numeral f fd) (m_DIGITS : ∃ t, mg "DIGITS" = some (.str "0123456789" t)) (m_MOST_DIGITS : ∃ t, mg "MOST_DIGITS" = some (.int 9 t)) (m_all : mg "all" = none) (m_len : mg "len" = none)  : FnOk P w K mg base (L2.CX P w) 1 f fd ["word"] (FSp ⟨P, w, K, C⟩ f_is_numeral) :=
  fn_ok (N := ["word", "char"]) (k := 0) (pin := [true]) (fb := b_is_numeral) F sc_is_numeral rfl (by decide) (fun cdv A outer s H E hr => have hu := units65 hr;
  (vb_cons (vs_if ((vw_or (vt_not (vt_chain op_le op_le srv_le srv_le ve_int (c_len m_len (va_cons ve_ref va_nil)) (ve_gint_x m_MOST_DIGITS))) (vw_or1 (vt_not (vt_of (c_all rfl m_all (va_cons (ve_lc (own := [("char", 1)]) rfl sc_is_numeral.nd (vi_seq ve_ref) (blk_of (by kernel_rfl!)) (by decide) (fun _ _ _ _ _ => (vg_name sc_is_numeral.nd rfl (by first | exact .inl rfl | exact .inr rfl) rfl)) (fun _ _ _ _ _ => vts_nil) (fun _ _ _ _ _ => (n_in hu ve_ref (ve_gstr_x m_DIGITS)))) va_nil))))))).vt (vb_one (vs_ret ve_bl)) vb_nil)
  (vb_one (vs_ret (ve_or (n_eq hu ve_ref ve_str) (ve_one (n_ne hu (n_ix ve_ref ve_int) ve_str)))))))
theorem ok_is_numeral {f : Addr} {fd : FuncData} (F : FnP K "is_numeral" st_is_numeral f fd) (m_DIGITS : ∃ t, mg "DIGITS" = some (.str "0123456789" t)) (m_MOST_DIGITS : ∃ t, mg "MOST_DIGITS" = some (.int 9 t)) (m_all : mg "all" = none) (m_len : mg "len" = none)  (g : mg "is_numeral" = some (.ref f)) : OwnD P w K mg base C "is_numeral" 1 f_is_numeral :=
  ⟨f, fd, ["word"], fk_is_numeral F m_DIGITS m_MOST_DIGITS m_all m_len , g, F.kp, F.bindsN fun _ _ _ _ _ _ us hl => match us, hl with | [_], _ => rfl⟩
theorem fk_atom_of {f : Addr} {fd : FuncData} (F : FnP K "atom_of" st_atom_of f fd) (m_all : mg "all" = none) (m_tuple : mg "tuple" = none) (o_is_name : OwnD P w K mg base C "is_name" 1 f_is_name) : FnOk P w K mg base (L2.CX P w) 2 f fd ["word"] (FSp ⟨P, w, K, C⟩ f_atom_of) :=
  fn_ok (N := ["word", "name", "bracket", "rest", "names", "one"]) (k := 1) (pin := [true]) (fb := b_atom_of) F sc_atom_of rfl (by decide) (fun cdv A outer s H E hr => have hu := units65 hr;
  (vb_cons (vs_unp (m_partition ve_ref (va_cons ve_str va_nil)) (vg_tup rfl (vgs_cons (vg_name sc_atom_of.nd rfl (by first | exact .inl rfl | exact .inr rfl) rfl) (vgs_cons (vg_name sc_atom_of.nd rfl (by first | exact .inl rfl | exact .inr rfl) rfl) (vgs_cons (vg_name sc_atom_of.nd rfl (by first | exact .inl rfl | exact .inr rfl) rfl) vgs_nil)))))
  (vb_cons (vs_if ((vw_or (t_eq hu ve_ref ve_str) (vw_or (t_eq hu ve_ref ve_str) (vw_or1 (t_ne hu (n_ix ve_ref (n_neg ve_int)) ve_str))))).vt (vb_one (vs_ret ve_non)) vb_nil)
  (vb_cons (vs_set sc_atom_of.nd rfl (by first | exact .inl rfl | exact .inr rfl) rfl (m_split (ve_slice ve_ref vp_no (vp_at (n_neg ve_int))) (va_cons ve_str va_nil)))
  (vb_cons (vs_if ((vw_or (vt_not (vt_of (n_own o_is_name (hr.mono (by decide)) takes_cx (va_cons ve_ref va_nil)))) (vw_or1 (vt_not (vt_of (c_all rfl m_all (va_cons (ve_lc (own := [("one", 5)]) rfl sc_atom_of.nd (vi_seq ve_ref) (blk_of (by kernel_rfl!)) (by decide) (fun _ _ _ _ _ => (vg_name sc_atom_of.nd rfl (by first | exact .inl rfl | exact .inr rfl) rfl)) (fun _ _ _ _ _ => vts_nil) (fun _ _ _ _ _ => (ve_fz (n_own o_is_name (hr.mono (by decide)) takes_no (va_cons ve_ref va_nil))))) va_nil))))))).vt (vb_one (vs_ret ve_non)) vb_nil)
  (vb_one (vs_ret (ve_tup (va_cons ve_var (va_cons (c_tuple m_tuple (va_cons ve_ref va_nil)) va_nil))))))))))
theorem ok_atom_of {f : Addr} {fd : FuncData} (F : FnP K "atom_of" st_atom_of f fd) (m_all : mg "all" = none) (m_tuple : mg "tuple" = none) (o_is_name : OwnD P w K mg base C "is_name" 1 f_is_name) (g : mg "atom_of" = some (.ref f)) : OwnD P w K mg base C "atom_of" 2 f_atom_of :=
  ⟨f, fd, ["word"], fk_atom_of F m_all m_tuple o_is_name, g, F.kp, F.bindsN fun _ _ _ _ _ _ us hl => match us, hl with | [_], _ => rfl⟩
theorem fk__law_draws {f : Addr} {fd : FuncData} (F : FnP K "_law_draws" st__law_draws f fd) (m_abs : mg "abs" = none) (m_int : mg "int" = none) (m_len : mg "len" = none) (m_list : mg "list" = none) (m_range : mg "range" = none) (m_reversed : mg "reversed" = none)  : FnOk P w K mg base (L2.CX P w) 1 f fd ["script"] (FSp ⟨P, w, K, C⟩ f__law_draws) :=
  fn_ok (N := ["script", "draws", "cell", "number", "first", "k", "seed"]) (k := 0) (pin := [true]) (fb := b__law_draws) F sc__law_draws rfl (by decide) (fun cdv A outer s H E hr => have hu := units65 hr;
  (vb_cons (vs_set sc__law_draws.nd rfl (by first | exact .inl rfl | exact .inr rfl) rfl (ve_lst va_nil))
  (vb_cons (vs_for passes_cx rfl (vi_seq ve_ref) (vg_name sc__law_draws.nd rfl (by first | exact .inl rfl | exact .inr rfl) rfl)
  (vb_cons (vs_set sc__law_draws.nd rfl (by first | exact .inl rfl | exact .inr rfl) rfl (c_abs m_abs (va_cons ve_ref va_nil)))
  (vb_cons (vs_if (t_lt ve_ref (n_pow ve_int ve_int)) (vb_cons (vs_set sc__law_draws.nd rfl (by first | exact .inl rfl | exact .inr rfl) rfl (n_mod (c_int m_int (va_cons (n_add (n_mul ve_ref ve_int) ve_int) va_nil)) ve_int))
  (vb_cons (vs_expr (m_app ve_ref (va_cons (n_mod (c_int m_int (va_cons (n_add (n_mul ve_ref ve_int) ve_ref) va_nil)) ve_int) va_nil)))
  (vb_cons (vs_expr (m_app ve_ref (va_cons (n_mod (c_int m_int (va_cons (n_add ve_ref (n_fdiv ve_ref ve_int)) va_nil)) ve_int) va_nil)))
  (vb_one (vs_set sc__law_draws.nd rfl (by first | exact .inl rfl | exact .inr rfl) rfl ve_int))))) vb_nil)
  (vb_one (vs_for passes_cx rfl (vi_range1 rfl m_range (va_cons ve_int va_nil)) (vg_name sc__law_draws.nd rfl (by first | exact .inl rfl | exact .inr rfl) rfl)
  (vb_one (vs_if (t_gt ve_ref ve_int) (vb_cons (vs_expr (m_app ve_ref (va_cons (n_mod (c_int m_int (va_cons ve_ref va_nil)) ve_int) va_nil)))
  (vb_one (vs_set sc__law_draws.nd rfl (by first | exact .inl rfl | exact .inr rfl) rfl (n_fdiv ve_ref ve_int)))) vb_nil)) (pp_of rfl))))) (pp_of rfl))
  (vb_cons (vs_set sc__law_draws.nd rfl (by first | exact .inl rfl | exact .inr rfl) rfl ve_int)
  (vb_cons (vs_if (t_gt (c_len m_len (va_cons ve_ref va_nil)) ve_int) (vb_one (vs_set sc__law_draws.nd rfl (by first | exact .inl rfl | exact .inr rfl) rfl (n_add ve_int (c_abs m_abs (va_cons (n_ix ve_ref ve_int) va_nil))))) vb_nil)
  (vb_cons (vs_for passes_cx rfl (vi_range1 rfl m_range (va_cons ve_int va_nil)) (vg_name sc__law_draws.nd rfl (by first | exact .inl rfl | exact .inr rfl) rfl)
  (vb_cons (vs_set sc__law_draws.nd rfl (by first | exact .inl rfl | exact .inr rfl) rfl (n_mod (c_int m_int (va_cons (n_add (n_mul ve_ref ve_int) ve_int) va_nil)) ve_int))
  (vb_one (vs_expr (m_app ve_ref (va_cons (n_fdiv ve_ref ve_int) va_nil))))) (pp_of rfl))
  (vb_one (vs_ret (ve_lstRev rfl rfl m_list rfl m_reversed ve_ref)))))))))
theorem ok__law_draws {f : Addr} {fd : FuncData} (F : FnP K "_law_draws" st__law_draws f fd) (m_abs : mg "abs" = none) (m_int : mg "int" = none) (m_len : mg "len" = none) (m_list : mg "list" = none) (m_range : mg "range" = none) (m_reversed : mg "reversed" = none)  (g : mg "_law_draws" = some (.ref f)) : OwnD P w K mg base C "_law_draws" 1 f__law_draws :=
  ⟨f, fd, ["script"], fk__law_draws F m_abs m_int m_len m_list m_range m_reversed , g, F.kp, F.bindsN fun _ _ _ _ _ _ us hl => match us, hl with | [_], _ => rfl⟩
theorem fk__law_take {f : Addr} {fd : FuncData} (F : FnP K "_law_take" st__law_take f fd) (m_int : mg "int" = none) (m_len : mg "len" = none)  : FnOk P w K mg base (L2.CX P w) 1 f fd ["draws", "bound"] (FSp ⟨P, w, K, C⟩ f__law_take) :=
  fn_ok (N := ["draws", "bound"]) (k := 0) (pin := [true, true]) (fb := b__law_take) F sc__law_take rfl (by decide) (fun cdv A outer s H E hr => have hu := units65 hr;
  (vb_cons (vs_if (t_eq hu (c_len m_len (va_cons ve_ref va_nil)) ve_int) (vb_one (vs_ret ve_int)) vb_nil)
  (vb_one (vs_ret (n_mod (c_int m_int (va_cons (m_pop ve_ref) va_nil)) ve_ref)))))
theorem ok__law_take {f : Addr} {fd : FuncData} (F : FnP K "_law_take" st__law_take f fd) (m_int : mg "int" = none) (m_len : mg "len" = none)  (g : mg "_law_take" = some (.ref f)) : OwnD P w K mg base C "_law_take" 1 f__law_take :=
  ⟨f, fd, ["draws", "bound"], fk__law_take F m_int m_len , g, F.kp, F.bindsN fun _ _ _ _ _ _ us hl => match us, hl with | [_, _], _ => rfl⟩
theorem fk__law_same {f : Addr} {fd : FuncData} (F : FnP K "_law_same" st__law_same f fd) (g : mg "_law_same" = some (.ref f)) (m_bool : mg "bool" = none) (m_int : mg "int" = none) (m_isinstance : mg "isinstance" = none) (m_len : mg "len" = none) (m_list : mg "list" = none) (m_range : mg "range" = none) (m_str : mg "str" = none) (m_tuple : mg "tuple" = none)  : ∀ k : Nat, FnOk P w K mg base (L2.CX P w) (1 + k) f fd ["value", "due"] (FSp ⟨P, w, K, C⟩ (f__law_same k))
  | 0 => fn_ok (N := ["value", "due", "k"]) (k := 0) (pin := [true, true]) (fb := fun _ => .bad) F sc__law_same rfl (by decide) (fun cdv A outer s H E hr => vb_bad)
  | k + 1 => have o_self : OwnD P w K mg base C "_law_same" (1 + k) (f__law_same k) := ⟨f, fd, ["value", "due"], fk__law_same F g m_bool m_int m_isinstance m_len m_list m_range m_str m_tuple  k, g, F.kp, F.bindsN fun _ _ _ _ _ _ us hl => match us, hl with | [_, _], _ => rfl⟩
    fn_ok (N := ["value", "due", "k"]) (k := 1 + k) (pin := [true, true]) (fb := b__law_same (f__law_same k)) F sc__law_same rfl (by decide) (fun cdv A outer s H E hr => have hu := units65 hr;
  (vb_cons (vs_if ((vw_or (vt_of (ve_isi (by rfl) m_isinstance (by rfl) m_tuple (by decide +kernel) kit_tuple ve_ref)) (vw_or1 (vt_of (ve_isi (by rfl) m_isinstance (by rfl) m_list (by decide +kernel) kit_list ve_ref))))).vt (vb_cons (vs_if ((vw_or (t_ne hu (ve_isi (by rfl) m_isinstance (by rfl) m_tuple (by decide +kernel) kit_tuple ve_ref) (ve_isi (by rfl) m_isinstance (by rfl) m_tuple (by decide +kernel) kit_tuple ve_ref)) (vw_or1 (t_ne hu (ve_isi (by rfl) m_isinstance (by rfl) m_list (by decide +kernel) kit_list ve_ref) (ve_isi (by rfl) m_isinstance (by rfl) m_list (by decide +kernel) kit_list ve_ref))))).vt (vb_one (vs_ret ve_bl)) vb_nil)
  (vb_cons (vs_if (t_ne hu (c_len m_len (va_cons ve_ref va_nil)) (c_len m_len (va_cons ve_ref va_nil))) (vb_one (vs_ret ve_bl)) vb_nil)
  (vb_cons (vs_for passes_cx rfl (vi_range1 rfl m_range (va_cons (c_len m_len (va_cons ve_ref va_nil)) va_nil)) (vg_name sc__law_same.nd rfl (by first | exact .inl rfl | exact .inr rfl) rfl)
  (vb_one (vs_if (vt_not (vt_of (n_own o_self hr takes_cx (va_cons (n_ix ve_ref ve_ref) (va_cons (n_ix ve_ref ve_ref) va_nil))))) (vb_one (vs_ret ve_bl)) vb_nil)) (pp_of rfl))
  (vb_one (vs_ret ve_bl))))) vb_nil)
  (vb_cons (vs_if (t_ne hu (ve_isi (by rfl) m_isinstance (by rfl) m_bool (by decide +kernel) kit_bool ve_ref) (ve_isi (by rfl) m_isinstance (by rfl) m_bool (by decide +kernel) kit_bool ve_ref)) (vb_one (vs_ret ve_bl)) vb_nil)
  (vb_cons (vs_if ((vw_or (t_ne hu (ve_isi (by rfl) m_isinstance (by rfl) m_int (by decide +kernel) kit_int ve_ref) (ve_isi (by rfl) m_isinstance (by rfl) m_int (by decide +kernel) kit_int ve_ref)) (vw_or1 (t_ne hu (ve_isi (by rfl) m_isinstance (by rfl) m_str (by decide +kernel) kit_str ve_ref) (ve_isi (by rfl) m_isinstance (by rfl) m_str (by decide +kernel) kit_str ve_ref))))).vt (vb_one (vs_ret ve_bl)) vb_nil)
  (vb_one (vs_ret (n_eq hu ve_ref ve_ref)))))))
theorem ok__law_same {f : Addr} {fd : FuncData} (F : FnP K "_law_same" st__law_same f fd) (m_bool : mg "bool" = none) (m_int : mg "int" = none) (m_isinstance : mg "isinstance" = none) (m_len : mg "len" = none) (m_list : mg "list" = none) (m_range : mg "range" = none) (m_str : mg "str" = none) (m_tuple : mg "tuple" = none)  (g : mg "_law_same" = some (.ref f)) : OwnD P w K mg base C "_law_same" 41 (f__law_same 40) :=
  ⟨f, fd, ["value", "due"], fk__law_same F g m_bool m_int m_isinstance m_len m_list m_range m_str m_tuple  40, g, F.kp, F.bindsN fun _ _ _ _ _ _ us hl => match us, hl with | [_, _], _ => rfl⟩
theorem fk__law_pick {f : Addr} {fd : FuncData} (F : FnP K "_law_pick" st__law_pick f fd) (m_len : mg "len" = none) (o__law_take : OwnD P w K mg base C "_law_take" 1 f__law_take) : FnOk P w K mg base (L2.CX P w) 2 f fd ["draws", "items"] (FSp ⟨P, w, K, C⟩ f__law_pick) :=
  fn_ok (N := ["draws", "items"]) (k := 1) (pin := [true, true]) (fb := b__law_pick) F sc__law_pick rfl (by decide) (fun cdv A outer s H E hr => have hu := units65 hr;
  (vb_one (vs_ret (n_ix ve_ref (n_own o__law_take (hr.mono (by decide)) takes_cx (va_cons ve_ref (va_cons (c_len m_len (va_cons ve_ref va_nil)) va_nil)))))))
theorem ok__law_pick {f : Addr} {fd : FuncData} (F : FnP K "_law_pick" st__law_pick f fd) (m_len : mg "len" = none) (o__law_take : OwnD P w K mg base C "_law_take" 1 f__law_take) (g : mg "_law_pick" = some (.ref f)) : OwnD P w K mg base C "_law_pick" 2 f__law_pick :=
  ⟨f, fd, ["draws", "items"], fk__law_pick F m_len o__law_take, g, F.kp, F.bindsN fun _ _ _ _ _ _ us hl => match us, hl with | [_, _], _ => rfl⟩
theorem fk__law_name {f : Addr} {fd : FuncData} (F : FnP K "_law_name" st__law_name f fd) (m_len : mg "len" = none)  : FnOk P w K mg base (L2.CX P w) 1 f fd ["word"] (FSp ⟨P, w, K, C⟩ f__law_name) :=
  fn_ok (N := ["word", "char"]) (k := 0) (pin := [true]) (fb := b__law_name) F sc__law_name rfl (by decide) (fun cdv A outer s H E hr => have hu := units65 hr;
  (vb_one (vs_ret (ve_and (ve_chain op_le op_le srv_le srv_le ve_int (c_len m_len (va_cons ve_ref va_nil)) ve_int) (ve_one (n_eq hu (ve_lc (own := [("char", 1)]) rfl sc__law_name.nd (vi_seq ve_ref) (blk_of (by kernel_rfl!)) (by decide) (fun _ _ _ _ _ => (vg_name sc__law_name.nd rfl (by first | exact .inl rfl | exact .inr rfl) rfl)) (fun _ _ _ _ _ => (vts_one (t_notin hu ve_ref ve_str))) (fun _ _ _ _ _ => ve_var)) (ve_lst va_nil)))))))
theorem ok__law_name {f : Addr} {fd : FuncData} (F : FnP K "_law_name" st__law_name f fd) (m_len : mg "len" = none)  (g : mg "_law_name" = some (.ref f)) : OwnD P w K mg base C "_law_name" 1 f__law_name :=
  ⟨f, fd, ["word"], fk__law_name F m_len , g, F.kp, F.bindsN fun _ _ _ _ _ _ us hl => match us, hl with | [_], _ => rfl⟩
theorem fk__law_numeral {f : Addr} {fd : FuncData} (F : FnP K "_law_numeral" st__law_numeral f fd) (m_len : mg "len" = none)  : FnOk P w K mg base (L2.CX P w) 1 f fd ["word"] (FSp ⟨P, w, K, C⟩ f__law_numeral) :=
  fn_ok (N := ["word", "char"]) (k := 0) (pin := [true]) (fb := b__law_numeral) F sc__law_numeral rfl (by decide) (fun cdv A outer s H E hr => have hu := units65 hr;
  (vb_cons (vs_if ((vw_or (vt_not (vt_chain op_le op_le srv_le srv_le ve_int (c_len m_len (va_cons ve_ref va_nil)) ve_int)) (vw_or1 (t_ne hu (ve_lc (own := [("char", 1)]) rfl sc__law_numeral.nd (vi_seq ve_ref) (blk_of (by kernel_rfl!)) (by decide) (fun _ _ _ _ _ => (vg_name sc__law_numeral.nd rfl (by first | exact .inl rfl | exact .inr rfl) rfl)) (fun _ _ _ _ _ => (vts_one (t_notin hu ve_ref ve_str))) (fun _ _ _ _ _ => ve_var)) (ve_lst va_nil))))).vt (vb_one (vs_ret ve_bl)) vb_nil)
  (vb_one (vs_ret (ve_or (n_eq hu ve_ref ve_str) (ve_one (n_ne hu (n_ix ve_ref ve_int) ve_str)))))))
theorem ok__law_numeral {f : Addr} {fd : FuncData} (F : FnP K "_law_numeral" st__law_numeral f fd) (m_len : mg "len" = none)  (g : mg "_law_numeral" = some (.ref f)) : OwnD P w K mg base C "_law_numeral" 1 f__law_numeral :=
  ⟨f, fd, ["word"], fk__law_numeral F m_len , g, F.kp, F.bindsN fun _ _ _ _ _ _ us hl => match us, hl with | [_], _ => rfl⟩
theorem fk__law_parted {f : Addr} {fd : FuncData} (F : FnP K "_law_parted" st__law_parted f fd) (m_len : mg "len" = none)  : FnOk P w K mg base (L2.CX P w) 1 f fd ["text", "sign"] (FSp ⟨P, w, K, C⟩ f__law_parted) :=
  fn_ok (N := ["text", "sign", "found", "char"]) (k := 0) (pin := [true, true]) (fb := b__law_parted) F sc__law_parted rfl (by decide) (fun cdv A outer s H E hr => have hu := units65 hr;
  (vb_cons (vs_set sc__law_parted.nd rfl (by first | exact .inl rfl | exact .inr rfl) rfl (ve_lst (va_cons ve_str va_nil)))
  (vb_cons (vs_for passes_cx rfl (vi_seq ve_ref) (vg_name sc__law_parted.nd rfl (by first | exact .inl rfl | exact .inr rfl) rfl)
  (vb_one (vs_if (t_eq hu ve_ref ve_ref) (vb_one (vs_expr (m_app ve_ref (va_cons ve_str va_nil)))) (vb_one (vs_stI ve_ref (n_sub (c_len m_len (va_cons ve_ref va_nil)) ve_int) (ve_fz (n_add (n_ix ve_ref (n_sub (c_len m_len (va_cons ve_ref va_nil)) ve_int)) ve_ref)))))) (pp_of rfl))
  (vb_one (vs_ret ve_move)))))
theorem ok__law_parted {f : Addr} {fd : FuncData} (F : FnP K "_law_parted" st__law_parted f fd) (m_len : mg "len" = none)  (g : mg "_law_parted" = some (.ref f)) : OwnD P w K mg base C "_law_parted" 1 f__law_parted :=
  ⟨f, fd, ["text", "sign"], fk__law_parted F m_len , g, F.kp, F.bindsN fun _ _ _ _ _ _ us hl => match us, hl with | [_, _], _ => rfl⟩
theorem fk__law_written {f : Addr} {fd : FuncData} (F : FnP K "_law_written" st__law_written f fd) (m_len : mg "len" = none) (m_tuple : mg "tuple" = none) (o__law_name : OwnD P w K mg base C "_law_name" 1 f__law_name) (o__law_parted : OwnD P w K mg base C "_law_parted" 1 f__law_parted) : FnOk P w K mg base (L2.CX P w) 2 f fd ["word"] (FSp ⟨P, w, K, C⟩ f__law_written) :=
  fn_ok (N := ["word", "place", "names", "name"]) (k := 1) (pin := [true]) (fb := b__law_written) F sc__law_written rfl (by decide) (fun cdv A outer s H E hr => have hu := units65 hr;
  (vb_cons (vs_if ((vw_or (t_lt (c_len m_len (va_cons ve_ref va_nil)) ve_int) (vw_or (t_ne hu (n_ix ve_ref (n_sub (c_len m_len (va_cons ve_ref va_nil)) ve_int)) ve_str) (vw_or1 (t_notin hu ve_str ve_ref))))).vt (vb_one (vs_ret ve_non)) vb_nil)
  (vb_cons (vs_set sc__law_written.nd rfl (by first | exact .inl rfl | exact .inr rfl) rfl (m_index ve_ref (va_cons ve_str va_nil)))
  (vb_cons (vs_set sc__law_written.nd rfl (by first | exact .inl rfl | exact .inr rfl) rfl (n_own o__law_parted (hr.mono (by decide)) takes_cx (va_cons (ve_slice ve_ref (vp_at (n_add ve_ref ve_int)) (vp_at (n_sub (c_len m_len (va_cons ve_ref va_nil)) ve_int))) (va_cons ve_str va_nil))))
  (vb_cons (vs_if ((vw_or (vt_not (vt_of (n_own o__law_name (hr.mono (by decide)) takes_cx (va_cons (ve_slice ve_ref vp_no (vp_at ve_var)) va_nil)))) (vw_or1 (t_ne hu (ve_lc (own := [("name", 3)]) rfl sc__law_written.nd (vi_seq ve_ref) (blk_of (by kernel_rfl!)) (by decide) (fun _ _ _ _ _ => (vg_name sc__law_written.nd rfl (by first | exact .inl rfl | exact .inr rfl) rfl)) (fun _ _ _ _ _ => (vts_one (vt_not (vt_of (n_own o__law_name (hr.mono (by decide)) takes_no (va_cons ve_ref va_nil)))))) (fun _ _ _ _ _ => ve_var)) (ve_lst va_nil))))).vt (vb_one (vs_ret ve_non)) vb_nil)
  (vb_one (vs_ret (ve_tup (va_cons (ve_fz (ve_slice ve_ref vp_no (vp_at ve_var))) (va_cons (c_tuple m_tuple (va_cons ve_ref va_nil)) va_nil))))))))))
theorem ok__law_written {f : Addr} {fd : FuncData} (F : FnP K "_law_written" st__law_written f fd) (m_len : mg "len" = none) (m_tuple : mg "tuple" = none) (o__law_name : OwnD P w K mg base C "_law_name" 1 f__law_name) (o__law_parted : OwnD P w K mg base C "_law_parted" 1 f__law_parted) (g : mg "_law_written" = some (.ref f)) : OwnD P w K mg base C "_law_written" 2 f__law_written :=
  ⟨f, fd, ["word"], fk__law_written F m_len m_tuple o__law_name o__law_parted, g, F.kp, F.bindsN fun _ _ _ _ _ _ us hl => match us, hl with | [_], _ => rfl⟩
theorem fk__law_word {f : Addr} {fd : FuncData} (F : FnP K "_law_word" st__law_word f fd) (m_len : mg "len" = none) (m_list : mg "list" = none) (m_range : mg "range" = none) (o__law_pick : OwnD P w K mg base C "_law_pick" 2 f__law_pick) (o__law_take : OwnD P w K mg base C "_law_take" 1 f__law_take) : FnOk P w K mg base (L2.CX P w) 3 f fd ["draws"] (FSp ⟨P, w, K, C⟩ f__law_word) :=
  fn_ok (N := ["draws", "pool", "kind", "names", "word", "place", "change", "k"]) (k := 2) (pin := [true]) (fb := b__law_word) F sc__law_word rfl (by decide) (fun cdv A outer s H E hr => have hu := units65 hr;
  (vb_cons (vs_set sc__law_word.nd rfl (by first | exact .inl rfl | exact .inr rfl) rfl (ve_lst (va_cons ve_str (va_cons ve_str (va_cons ve_str (va_cons ve_str (va_cons ve_str (va_cons ve_str (va_cons ve_str (va_cons ve_str (va_cons ve_str (va_cons ve_str (va_cons ve_str (va_cons ve_str (va_cons ve_str (va_cons ve_str (va_cons ve_str (va_cons ve_str va_nil))))))))))))))))))
  (vb_cons (vs_set sc__law_word.nd rfl (by first | exact .inl rfl | exact .inr rfl) rfl (n_own o__law_take (hr.mono (by decide)) takes_cx (va_cons ve_ref (va_cons ve_int va_nil))))
  (vb_cons (vs_if (t_eq hu ve_ref ve_int) (vb_one (vs_ret (m_join ve_str (va_cons (ve_lc (own := [("k", 7)]) rfl sc__law_word.nd (vi_range1 rfl m_range (va_cons (n_add ve_int (n_own o__law_take (hr.mono (by decide)) takes_cx (va_cons ve_ref (va_cons ve_int va_nil)))) va_nil)) (blk_of (by kernel_rfl!)) (by decide) (fun _ _ _ _ _ => (vg_name sc__law_word.nd rfl (by first | exact .inl rfl | exact .inr rfl) rfl)) (fun _ _ _ _ _ => vts_nil) (fun _ _ _ _ _ => (ve_fz (n_own o__law_pick (hr.mono (by decide)) takes_no (va_cons ve_ref (va_cons ve_ref va_nil)))))) va_nil)))) vb_nil)
  (vb_cons (vs_if (t_eq hu ve_ref ve_int) (vb_one (vs_ret (m_join ve_str (va_cons (ve_lc (own := [("k", 7)]) rfl sc__law_word.nd (vi_range1 rfl m_range (va_cons (n_add ve_int (n_own o__law_take (hr.mono (by decide)) takes_cx (va_cons ve_ref (va_cons ve_int va_nil)))) va_nil)) (blk_of (by kernel_rfl!)) (by decide) (fun _ _ _ _ _ => (vg_name sc__law_word.nd rfl (by first | exact .inl rfl | exact .inr rfl) rfl)) (fun _ _ _ _ _ => vts_nil) (fun _ _ _ _ _ => (ve_fz (n_own o__law_pick (hr.mono (by decide)) takes_no (va_cons ve_ref (va_cons (c_listS rfl m_list (va_cons ve_str va_nil)) va_nil)))))) va_nil)))) vb_nil)
  (vb_cons (vs_if (t_eq hu ve_ref ve_int) (vb_one (vs_ret (m_join ve_str (va_cons (ve_lc (own := [("k", 7)]) rfl sc__law_word.nd (vi_range1 rfl m_range (va_cons (n_add ve_int (n_own o__law_take (hr.mono (by decide)) takes_cx (va_cons ve_ref (va_cons ve_int va_nil)))) va_nil)) (blk_of (by kernel_rfl!)) (by decide) (fun _ _ _ _ _ => (vg_name sc__law_word.nd rfl (by first | exact .inl rfl | exact .inr rfl) rfl)) (fun _ _ _ _ _ => vts_nil) (fun _ _ _ _ _ => (ve_fz (n_own o__law_pick (hr.mono (by decide)) takes_no (va_cons ve_ref (va_cons (c_listS rfl m_list (va_cons ve_str va_nil)) va_nil)))))) va_nil)))) vb_nil)
  (vb_cons (vs_setLc (own := [("k", 7)]) rfl sc__law_word.nd rfl rfl rfl (by rfl) (vi_range1 rfl m_range (va_cons (n_add ve_int (n_own o__law_take (hr.mono (by decide)) takes_cx (va_cons ve_ref (va_cons ve_int va_nil)))) va_nil)) (blk_of (by kernel_rfl!)) (by decide) (fun _ _ _ _ _ => (vg_name sc__law_word.nd rfl (by first | exact .inl rfl | exact .inr rfl) rfl)) (fun _ _ _ _ _ => vts_nil) (fun _ _ _ _ _ => (ve_fz (n_own o__law_pick (hr.mono (by decide)) takes_no (va_cons ve_ref (va_cons (ve_slice ve_ref vp_no (vp_at ve_int)) va_nil))))))
  (vb_cons (vs_set sc__law_word.nd rfl (by first | exact .inl rfl | exact .inr rfl) rfl (n_add (n_add (n_add (n_own o__law_pick (hr.mono (by decide)) takes_cx (va_cons ve_ref (va_cons (ve_slice ve_ref vp_no (vp_at ve_int)) va_nil))) ve_str) (m_join ve_str (va_cons ve_ref va_nil))) ve_str))
  (vb_cons (vs_set sc__law_word.nd rfl (by first | exact .inl rfl | exact .inr rfl) rfl (n_own o__law_take (hr.mono (by decide)) takes_cx (va_cons ve_ref (va_cons (c_len m_len (va_cons ve_ref va_nil)) va_nil))))
  (vb_cons (vs_set sc__law_word.nd rfl (by first | exact .inl rfl | exact .inr rfl) rfl (n_own o__law_take (hr.mono (by decide)) takes_cx (va_cons ve_ref (va_cons ve_int va_nil))))
  (vb_cons (vs_if (t_eq hu ve_ref ve_int) (vb_one (vs_set sc__law_word.nd rfl (by first | exact .inl rfl | exact .inr rfl) rfl (n_add (ve_slice ve_ref vp_no (vp_at ve_var)) (ve_slice ve_ref (vp_at (n_add ve_ref ve_int)) vp_no)))) vb_nil)
  (vb_cons (vs_if (t_eq hu ve_ref ve_int) (vb_one (vs_set sc__law_word.nd rfl (by first | exact .inl rfl | exact .inr rfl) rfl (n_add (n_add (ve_slice ve_ref vp_no (vp_at ve_var)) (n_own o__law_pick (hr.mono (by decide)) takes_cx (va_cons ve_ref (va_cons ve_ref va_nil)))) (ve_slice ve_ref (vp_at ve_var) vp_no)))) vb_nil)
  (vb_one (vs_ret ve_move))))))))))))))
theorem ok__law_word {f : Addr} {fd : FuncData} (F : FnP K "_law_word" st__law_word f fd) (m_len : mg "len" = none) (m_list : mg "list" = none) (m_range : mg "range" = none) (o__law_pick : OwnD P w K mg base C "_law_pick" 2 f__law_pick) (o__law_take : OwnD P w K mg base C "_law_take" 1 f__law_take) (g : mg "_law_word" = some (.ref f)) : OwnD P w K mg base C "_law_word" 3 f__law_word :=
  ⟨f, fd, ["draws"], fk__law_word F m_len m_list m_range o__law_pick o__law_take, g, F.kp, F.bindsN fun _ _ _ _ _ _ us hl => match us, hl with | [_], _ => rfl⟩
theorem fk_law {f : Addr} {fd : FuncData} (F : FnP K "law" st_law f fd) (m_len : mg "len" = none) (m_range : mg "range" = none) (o__law_draws : OwnD P w K mg base C "_law_draws" 1 f__law_draws) (o__law_name : OwnD P w K mg base C "_law_name" 1 f__law_name) (o__law_numeral : OwnD P w K mg base C "_law_numeral" 1 f__law_numeral) (o__law_parted : OwnD P w K mg base C "_law_parted" 1 f__law_parted) (o__law_pick : OwnD P w K mg base C "_law_pick" 2 f__law_pick) (o__law_same : OwnD P w K mg base C "_law_same" 41 (f__law_same 40)) (o__law_take : OwnD P w K mg base C "_law_take" 1 f__law_take) (o__law_word : OwnD P w K mg base C "_law_word" 3 f__law_word) (o__law_written : OwnD P w K mg base C "_law_written" 2 f__law_written) (o_atom_of : OwnD P w K mg base C "atom_of" 2 f_atom_of) (o_is_name : OwnD P w K mg base C "is_name" 1 f_is_name) (o_is_numeral : OwnD P w K mg base C "is_numeral" 1 f_is_numeral) (o_words_of : OwnD P w K mg base C "words_of" 1 f_words_of) : FnOk P w K mg base (L2.CX P w) 42 f fd ["script"] (FSp ⟨P, w, K, C⟩ f_law) :=
  fn_ok (N := ["script", "draws", "words", "word", "line", "k", "due", "column"]) (k := 41) (pin := [true]) (fb := b_law) F sc_law rfl (by decide) (fun cdv A outer s H E hr => have hu := units65 hr;
  (vb_cons (vs_set sc_law.nd rfl (by first | exact .inl rfl | exact .inr rfl) rfl (n_own o__law_draws (hr.mono (by decide)) takes_cx (va_cons ve_ref va_nil)))
  (vb_cons (vs_set sc_law.nd rfl (by first | exact .inl rfl | exact .inr rfl) rfl (ve_lst (va_cons ve_str (va_cons ve_str (va_cons ve_str (va_cons ve_str (va_cons ve_str (va_cons ve_str (va_cons ve_str (va_cons ve_str va_nil))))))))))
  (vb_cons (vs_set sc_law.nd rfl (by first | exact .inl rfl | exact .inr rfl) rfl (n_add ve_ref (ve_lc (own := [("k", 5)]) rfl sc_law.nd (vi_range1 rfl m_range (va_cons ve_int va_nil)) (blk_of (by kernel_rfl!)) (by decide) (fun _ _ _ _ _ => (vg_name sc_law.nd rfl (by first | exact .inl rfl | exact .inr rfl) rfl)) (fun _ _ _ _ _ => vts_nil) (fun _ _ _ _ _ => (ve_fz (n_own o__law_word (hr.mono (by decide)) takes_no (va_cons ve_ref va_nil)))))))
  (vb_cons (vs_for passes_cx rfl (vi_seq ve_ref) (vg_name sc_law.nd rfl (by first | exact .inl rfl | exact .inr rfl) rfl)
  (vb_cons (vs_if ((vw_or (vt_not (vt_of (n_own o__law_same (hr.mono (by decide)) takes_cx (va_cons (n_own o_is_name (hr.mono (by decide)) takes_cx (va_cons ve_ref va_nil)) (va_cons (n_own o__law_name (hr.mono (by decide)) takes_cx (va_cons ve_ref va_nil)) va_nil))))) (vw_or1 (vt_not (vt_of (n_own o__law_same (hr.mono (by decide)) takes_cx (va_cons (n_own o_is_numeral (hr.mono (by decide)) takes_cx (va_cons ve_ref va_nil)) (va_cons (n_own o__law_numeral (hr.mono (by decide)) takes_cx (va_cons ve_ref va_nil)) va_nil)))))))).vt (vb_one (vs_ret ve_bl)) vb_nil)
  (vb_one (vs_if (vt_not (vt_of (n_own o__law_same (hr.mono (by decide)) takes_cx (va_cons (n_own o_atom_of (hr.mono (by decide)) takes_cx (va_cons ve_ref va_nil)) (va_cons (n_own o__law_written (hr.mono (by decide)) takes_cx (va_cons ve_ref va_nil)) va_nil))))) (vb_one (vs_ret ve_bl)) vb_nil))) (pp_of rfl))
  (vb_cons (vs_set sc_law.nd rfl (by first | exact .inl rfl | exact .inr rfl) rfl ve_str)
  (vb_cons (vs_for passes_cx rfl (vi_range1 rfl m_range (va_cons (n_own o__law_take (hr.mono (by decide)) takes_cx (va_cons ve_ref (va_cons ve_int va_nil))) va_nil)) (vg_name sc_law.nd rfl (by first | exact .inl rfl | exact .inr rfl) rfl)
  (vb_one (vs_set sc_law.nd rfl (by first | exact .inl rfl | exact .inr rfl) rfl (n_add (n_add (n_add ve_ref (n_own o__law_pick (hr.mono (by decide)) takes_cx (va_cons ve_ref (va_cons ve_ref va_nil)))) (ve_slice ve_str vp_no (vp_at (n_own o__law_take (hr.mono (by decide)) takes_cx (va_cons ve_ref (va_cons ve_int va_nil)))))) (ve_slice ve_str vp_no (vp_at (n_own o__law_take (hr.mono (by decide)) takes_cx (va_cons ve_ref (va_cons ve_int va_nil)))))))) (pp_of rfl))
  (vb_cons (vs_set sc_law.nd rfl (by first | exact .inl rfl | exact .inr rfl) rfl (ve_lst va_nil))
  (vb_cons (vs_set sc_law.nd rfl (by first | exact .inl rfl | exact .inr rfl) rfl ve_int)
  (vb_cons (vs_for passes_cx rfl (vi_seq (n_own o__law_parted (hr.mono (by decide)) takes_cx (va_cons ve_ref (va_cons ve_str va_nil)))) (vg_name sc_law.nd rfl (by first | exact .inl rfl | exact .inr rfl) rfl)
  (vb_cons (vs_expr (m_app ve_ref (va_cons (ve_tup (va_cons ve_var (va_cons ve_var va_nil))) va_nil)))
  (vb_one (vs_set sc_law.nd rfl (by first | exact .inl rfl | exact .inr rfl) rfl (n_add (n_add ve_ref (c_len m_len (va_cons ve_ref va_nil))) ve_int)))) (pp_of rfl))
  (vb_one (vs_ret (ve_and (n_own o__law_same (hr.mono (by decide)) takes_cx (va_cons (n_own o_words_of (hr.mono (by decide)) takes_cx (va_cons ve_ref va_nil)) (va_cons ve_ref va_nil))) (ve_one (n_own o__law_same (hr.mono (by decide)) takes_cx (va_cons (n_own o_words_of (hr.mono (by decide)) takes_cx (va_cons ve_str va_nil)) (va_cons (ve_lst (va_cons (ve_tup (va_cons ve_int (va_cons ve_str va_nil))) va_nil)) va_nil)))))))))))))))))
theorem ok_law {f : Addr} {fd : FuncData} (F : FnP K "law" st_law f fd) (m_len : mg "len" = none) (m_range : mg "range" = none) (o__law_draws : OwnD P w K mg base C "_law_draws" 1 f__law_draws) (o__law_name : OwnD P w K mg base C "_law_name" 1 f__law_name) (o__law_numeral : OwnD P w K mg base C "_law_numeral" 1 f__law_numeral) (o__law_parted : OwnD P w K mg base C "_law_parted" 1 f__law_parted) (o__law_pick : OwnD P w K mg base C "_law_pick" 2 f__law_pick) (o__law_same : OwnD P w K mg base C "_law_same" 41 (f__law_same 40)) (o__law_take : OwnD P w K mg base C "_law_take" 1 f__law_take) (o__law_word : OwnD P w K mg base C "_law_word" 3 f__law_word) (o__law_written : OwnD P w K mg base C "_law_written" 2 f__law_written) (o_atom_of : OwnD P w K mg base C "atom_of" 2 f_atom_of) (o_is_name : OwnD P w K mg base C "is_name" 1 f_is_name) (o_is_numeral : OwnD P w K mg base C "is_numeral" 1 f_is_numeral) (o_words_of : OwnD P w K mg base C "words_of" 1 f_words_of) (g : mg "law" = some (.ref f)) : OwnD P w K mg base C "law" 42 f_law :=
  ⟨f, fd, ["script"], fk_law F m_len m_range o__law_draws o__law_name o__law_numeral o__law_parted o__law_pick o__law_same o__law_take o__law_word o__law_written o_atom_of o_is_name o_is_numeral o_words_of, g, F.kp, F.bindsN fun _ _ _ _ _ _ us hl => match us, hl with | [_], _ => rfl⟩
end
end K06
set_option Elab.async false
set_option linter.all false
set_option maxRecDepth 100000
set_option maxHeartbeats 4000000
namespace K06
open PySem PySem.Spec PyProof.Rows L2 Fw
theorem same_is : ∀ k : Nat, f__law_same k = fSame false k
  | 0 => rfl
  | k + 1 => by
    show fnSem 3 [true, true] (b__law_same (f__law_same k)) = fnSem 3 [true, true] (bSame false (fSame false k))
    rw [same_is k]
    rfl
theorem s_law_same {α : Type} {n : Nat} {e : α → Dt} [dd : DecidableEq α] [i : SamE false n e] {s t : Sv} {x y : α} {ii : Decidable (x = y)} (hs : datOf s = some (e x)) (ht : datOf t = some (e y)) (ho : szOk (e y) = true) (hn : n ≤ 39) : f__law_same 40 [s, t] = .ok (.fz (.bl (@decide (x = y) ii)), [some s, some t]) := by
  have e9 : ii = dd x y := Subsingleton.elim _ _
  subst e9
  rw [same_is]
  exact i.same 39 s t x y hn hs ht ho
theorem lx0x : (Dt.str "") = eX ([] : Wd) := by kernel_rfl
theorem lx1x : (Dt.str "()") = eX ([40, 41] : Wd) := by kernel_rfl
theorem lx2x : (Dt.str "a()") = eX ([97, 40, 41] : Wd) := by kernel_rfl
theorem lx3x : (Dt.str "a(b)") = eX ([97, 40, 98, 41] : Wd) := by kernel_rfl
theorem lx4x : (Dt.str "(b)") = eX ([40, 98, 41] : Wd) := by kernel_rfl
theorem lx5x : (Dt.str "a(b)c") = eX ([97, 40, 98, 41, 99] : Wd) := by kernel_rfl
theorem lx6x : (Dt.str "a(b))") = eX ([97, 40, 98, 41, 41] : Wd) := by kernel_rfl
theorem lx7x : (Dt.str "a((b)") = eX ([97, 40, 40, 98, 41] : Wd) := by kernel_rfl
theorem lx8x : (Dt.str "a") = eX ([97] : Wd) := by kernel_rfl
theorem lx9x : (Dt.str "red") = eX ([114, 101, 100] : Wd) := by kernel_rfl
theorem lx10x : (Dt.str "ann") = eX ([97, 110, 110] : Wd) := by kernel_rfl
theorem lx11x : (Dt.str "z") = eX ([122] : Wd) := by kernel_rfl
theorem lx12x : (Dt.str "abcdefghijkl") = eX ([97, 98, 99, 100, 101, 102, 103, 104, 105, 106, 107, 108] : Wd) := by kernel_rfl
theorem lx13x : (Dt.str "abcdefghijklm") = eX ([97, 98, 99, 100, 101, 102, 103, 104, 105, 106, 107, 108, 109] : Wd) := by kernel_rfl
theorem lx14x : (Dt.str "0") = eX ([48] : Wd) := by kernel_rfl
theorem lx15x : (Dt.str "7") = eX ([55] : Wd) := by kernel_rfl
theorem lx16x : (Dt.str "12") = eX ([49, 50] : Wd) := by kernel_rfl
theorem lx17x : (Dt.str "123456789") = eX ([49, 50, 51, 52, 53, 54, 55, 56, 57] : Wd) := by kernel_rfl
theorem lx18x : (Dt.str "A") = eX ([65] : Wd) := by kernel_rfl
theorem lx19x : (Dt.str "_") = eX ([95] : Wd) := by kernel_rfl
theorem lx20x : (Dt.str "(") = eX ([40] : Wd) := by kernel_rfl
theorem lx21x : (Dt.str ")") = eX ([41] : Wd) := by kernel_rfl
theorem lx22x : (Dt.str ",") = eX ([44] : Wd) := by kernel_rfl
theorem lx23x : (Dt.str "01234567890") = eX ([48, 49, 50, 51, 52, 53, 54, 55, 56, 57, 48] : Wd) := by kernel_rfl
theorem lx24x : (Dt.str "abmz") = eX ([97, 98, 109, 122] : Wd) := by kernel_rfl
theorem lx25x : (Dt.str "abcdefghijklmnopqrstuvwxyz") = eX ([97, 98, 99, 100, 101, 102, 103, 104, 105, 106, 107, 108, 109, 110, 111, 112, 113, 114, 115, 116, 117, 118, 119, 120, 121, 122] : Wd) := by kernel_rfl
theorem lx26x : (Dt.str "0123456789") = eX ([48, 49, 50, 51, 52, 53, 54, 55, 56, 57] : Wd) := by kernel_rfl
theorem lx27x : (Dt.str " ") = eX ([32] : Wd) := by kernel_rfl
theorem lx28x : (Dt.str "  ") = eX ([32, 32] : Wd) := by kernel_rfl
noncomputable def pl_law_draws_3 (k81 : Int) (draws79 : (List Int)) (number80 : Int) : Option ((List Int) × Int) :=
  if decide (0 < number80) then
    (capO (draws79 ++ [(Int.fmod number80 997)])).bind fun l82 =>
    some (l82, (Int.fdiv number80 997))
  else
  some (draws79, number80)
noncomputable def pl_law_draws_4 (cell62 : Int) (draws61 : (List Int)) : Option (List Int) :=
  (if decide ((absI cell62) < (10 ^ (18 : Int).toNat)) then
    (capO (draws61 ++ [(Int.fmod (((Int.fmod (((absI cell62) * 48271) + 11) 2147483647) * 69621) + (absI cell62)) 2147483629)])).bind fun l67 =>
    (capO (l67 ++ [(Int.fmod ((Int.fmod (((absI cell62) * 48271) + 11) 2147483647) + (Int.fdiv (absI cell62) 7)) 1000003)])).bind fun l68 =>
    some (l68, 0)
  else
  some (draws61, (absI cell62))).bind fun s65 =>
  (forO (fun (x83 : Int) (s71 : ((List Int) × Int)) => pl_law_draws_3 x83 s71.1 s71.2) (rgL 0 (60 : Int).toNat) (s65.1, s65.2)).bind fun s84 =>
  some s84.1
noncomputable def pl_law_draws_5 (k107 : Int) (draws105 : (List Int)) (seed106 : Int) : Option ((List Int) × Int) :=
  (capO (draws105 ++ [(Int.fdiv (Int.fmod ((seed106 * 48271) + 69621) 2147483647) 5)])).bind fun l108 =>
  some (l108, (Int.fmod ((seed106 * 48271) + 69621) 2147483647))
noncomputable def p_law_draws (script1 : (List Int)) : Option (List Int) :=
  (forO (fun (x86 : Int) (s26 : (List Int)) => pl_law_draws_4 x86 s26) script1 []).bind fun s87 =>
  (if decide (0 < (script1.length : Int)) then
    (atI script1 0).bind fun t94 =>
    some (1 + (absI t94))
  else
  some 1).bind fun s93 =>
  (forO (fun (x109 : Int) (s97 : ((List Int) × Int)) => pl_law_draws_5 x109 s97.1 s97.2) (rgL 0 (160 : Int).toNat) (s87, s93)).bind fun s110 =>
  some s110.1.reverse
theorem s_law_draws {script1 : (List Int)} {c : (List Int)} (h : p_law_draws script1 = some c) : f__law_draws [(sF (eL eI)) script1] = .ok ((sL (sF eI)) c, [some ((sF (eL eI)) script1)]) := by
  refine fn_of (P := [true]) (E := [some ((sF (eL eI)) script1), none, none, none, none, none, none]) (R := fun (c : (List Int)) => (sL (sF eI)) c) (O := fun (c : (List Int)) => [some ((sF (eL eI)) script1)]) (p := p_law_draws script1) ?_ h rfl rfl
  unfold p_law_draws b__law_draws
  refine Blk.last ?_
  refine Blk.assoc ?_
  refine Blk.nx (E1 := [some ((sF (eL eI)) script1), some ((sL (sF eI)) []), none, none, none, none, none]) (st_set (E1 := [some ((sF (eL eI)) script1), none, none, none, none, none, none]) (lst_ok (ss := []) rfl rfl (show 0 ≤ 1000 by decide)) (show 1 < 7 by decide) rfl) ?_
  refine Blk.assoc ?_
  refine Blk.forO (E1 := [some ((sF (eL eI)) script1), some ((sL (sF eI)) []), none, none, none, none, none]) (E2 := [none, some ((sL (sF eI)) []), none, none, none, none, none]) (as := [.r 0]) (ss := [((sF (eL eI)) script1)]) (P := (fun (s26 : (List Int)) (e : Fw.Env) => ∃ (j27 : Option Sv) (j28 : Option Sv) (j29 : Option Sv) (j30 : Option Sv), e = [none, some ((sL (sF eI)) s26), j27, j28, j29, j30, none])) (cons_ok rfl rfl) (it_l (e := eI)) rfl rfl ⟨_, _, _, _, rfl⟩ ?_ ?_
  · rintro cell62 draws61 _ ⟨j27, j28, j29, j30, rfl⟩
    refine ⟨[none, some ((sL (sF eI)) draws61), some ((sF eI) cell62), j28, j29, j30, none], rfl, ?_⟩
    show Blk _ (pl_law_draws_4 cell62 draws61) _
    unfold pl_law_draws_4 l__law_draws_2
    refine Blk.last ?_
    refine Blk.assoc ?_
    refine Blk.nx (E1 := [none, some ((sL (sF eI)) draws61), some ((sF eI) cell62), some ((sF eI) (absI cell62)), j29, j30, none]) (st_set (E1 := [none, some ((sL (sF eI)) draws61), some ((sF eI) cell62), j28, j29, j30, none]) (clk (as := [.r 2]) (cons_ok rfl rfl) g_abs rfl rfl rfl) (show 3 < 7 by decide) rfl) ?_
    refine Blk.assoc ?_
    refine Blk.joinQ (P := (fun (s65 : ((List Int) × Int)) (e : Fw.Env) => ∃ (j66 : Option Sv), e = [none, some ((sL (sF eI)) s65.1), some ((sF eI) cell62), some ((sF eI) s65.2), j66, j30, none])) (Blk.ife (E1 := [none, some ((sL (sF eI)) draws61), some ((sF eI) cell62), some ((sF eI) (absI cell62)), j29, j30, none]) (tb (bnk (a := .r 3) (b := .v ((sF eI) (10 ^ (18 : Int).toNat))) rfl (bnk (a := .v ((sF eI) 10)) (b := .v ((sF eI) 18)) rfl rfl (g_pow (by decide)) rfl rfl rfl) g_lt rfl rfl rfl)) (fun hb => Blk.last ?_) (fun hb => Blk.last ?_)) ?_
    · refine Blk.assoc ?_
      refine Blk.nx (E1 := [none, some ((sL (sF eI)) draws61), some ((sF eI) cell62), some ((sF eI) (absI cell62)), some ((sF eI) (Int.fmod (((absI cell62) * 48271) + 11) 2147483647)), j30, none]) (st_set (E1 := [none, some ((sL (sF eI)) draws61), some ((sF eI) cell62), some ((sF eI) (absI cell62)), j29, j30, none]) (bnk (a := .v ((sF eI) (((absI cell62) * 48271) + 11))) (b := .v ((sF eI) 2147483647)) (clk (as := [.v ((sF eI) (((absI cell62) * 48271) + 11))]) (cons_ok (bnk (a := .v ((sF eI) ((absI cell62) * 48271))) (b := .v ((sF eI) 11)) (bnk (a := .r 3) (b := .v ((sF eI) 48271)) rfl rfl (g_mul (pm_r (by decide))) rfl rfl rfl) rfl g_add rfl rfl rfl) rfl) g_int rfl rfl rfl) rfl (g_mod rfl) rfl rfl rfl) (show 4 < 7 by decide) rfl) ?_
      refine Blk.assoc ?_
      refine Blk.bind fun l67 h_l67 => ?_
      refine Blk.nx (E1 := [none, some ((sL (sF eI)) l67), some ((sF eI) cell62), some ((sF eI) (absI cell62)), some ((sF eI) (Int.fmod (((absI cell62) * 48271) + 11) 2147483647)), j30, none]) (drop_next (me (E1 := [none, some ((sL (sF eI)) draws61), some ((sF eI) cell62), some ((sF eI) (absI cell62)), some ((sF eI) (Int.fmod (((absI cell62) * 48271) + 11) 2147483647)), j30, none]) (E2 := [none, some ((sL (sF eI)) draws61), some ((sF eI) cell62), some ((sF eI) (absI cell62)), some ((sF eI) (Int.fmod (((absI cell62) * 48271) + 11) 2147483647)), j30, none]) (E4 := [none, some ((sL (sF eI)) l67), some ((sF eI) cell62), some ((sF eI) (absI cell62)), some ((sF eI) (Int.fmod (((absI cell62) * 48271) + 11) 2147483647)), j30, none]) (a := .r 1) (as := [.v ((sF eI) (Int.fmod (((Int.fmod (((absI cell62) * 48271) + 11) 2147483647) * 69621) + (absI cell62)) 2147483629))]) rfl rfl (cons_ok (bnk (a := .v ((sF eI) (((Int.fmod (((absI cell62) * 48271) + 11) 2147483647) * 69621) + (absI cell62)))) (b := .v ((sF eI) 2147483629)) (clk (as := [.v ((sF eI) (((Int.fmod (((absI cell62) * 48271) + 11) 2147483647) * 69621) + (absI cell62)))]) (cons_ok (bnk (a := .v ((sF eI) ((Int.fmod (((absI cell62) * 48271) + 11) 2147483647) * 69621))) (b := .r 3) (bnk (a := .r 4) (b := .v ((sF eI) 69621)) rfl rfl (g_mul (pm_r (by decide))) rfl rfl rfl) rfl g_add rfl rfl rfl) rfl) g_int rfl rfl rfl) rfl (g_mod rfl) rfl rfl rfl) rfl) (g_app (e := eI) h_l67) rfl rfl rfl)) ?_
      refine Blk.assoc ?_
      refine Blk.bind fun l68 h_l68 => ?_
      refine Blk.nx (E1 := [none, some ((sL (sF eI)) l68), some ((sF eI) cell62), some ((sF eI) (absI cell62)), some ((sF eI) (Int.fmod (((absI cell62) * 48271) + 11) 2147483647)), j30, none]) (drop_next (me (E1 := [none, some ((sL (sF eI)) l67), some ((sF eI) cell62), some ((sF eI) (absI cell62)), some ((sF eI) (Int.fmod (((absI cell62) * 48271) + 11) 2147483647)), j30, none]) (E2 := [none, some ((sL (sF eI)) l67), some ((sF eI) cell62), some ((sF eI) (absI cell62)), some ((sF eI) (Int.fmod (((absI cell62) * 48271) + 11) 2147483647)), j30, none]) (E4 := [none, some ((sL (sF eI)) l68), some ((sF eI) cell62), some ((sF eI) (absI cell62)), some ((sF eI) (Int.fmod (((absI cell62) * 48271) + 11) 2147483647)), j30, none]) (a := .r 1) (as := [.v ((sF eI) (Int.fmod ((Int.fmod (((absI cell62) * 48271) + 11) 2147483647) + (Int.fdiv (absI cell62) 7)) 1000003))]) rfl rfl (cons_ok (bnk (a := .v ((sF eI) ((Int.fmod (((absI cell62) * 48271) + 11) 2147483647) + (Int.fdiv (absI cell62) 7)))) (b := .v ((sF eI) 1000003)) (clk (as := [.v ((sF eI) ((Int.fmod (((absI cell62) * 48271) + 11) 2147483647) + (Int.fdiv (absI cell62) 7)))]) (cons_ok (bnk (a := .r 4) (b := .v ((sF eI) (Int.fdiv (absI cell62) 7))) rfl (bnk (a := .r 3) (b := .v ((sF eI) 7)) rfl rfl (g_div rfl) rfl rfl rfl) g_add rfl rfl rfl) rfl) g_int rfl rfl rfl) rfl (g_mod rfl) rfl rfl rfl) rfl) (g_app (e := eI) h_l68) rfl rfl rfl)) ?_
      refine Blk.nx (E1 := [none, some ((sL (sF eI)) l68), some ((sF eI) cell62), some ((sF eI) 0), some ((sF eI) (Int.fmod (((absI cell62) * 48271) + 11) 2147483647)), j30, none]) (st_set (E1 := [none, some ((sL (sF eI)) l68), some ((sF eI) cell62), some ((sF eI) (absI cell62)), some ((sF eI) (Int.fmod (((absI cell62) * 48271) + 11) 2147483647)), j30, none]) rfl (show 3 < 7 by decide) rfl) ?_
      exact Blk.fin ⟨_, rfl, _, rfl⟩
    · refine Blk.nx (E1 := [none, some ((sL (sF eI)) draws61), some ((sF eI) cell62), some ((sF eI) (absI cell62)), j29, j30, none]) rfl ?_
      exact Blk.fin ⟨_, rfl, _, rfl⟩
    rintro s65 _ ⟨j66, rfl⟩
    refine Blk.forO (E1 := [none, some ((sL (sF eI)) s65.1), some ((sF eI) cell62), some ((sF eI) s65.2), j66, j30, none]) (E2 := [none, some ((sL (sF eI)) s65.1), some ((sF eI) cell62), some ((sF eI) s65.2), j66, j30, none]) (as := [.v ((sF eI) 60)]) (ss := [((sF eI) 60)]) (P := (fun (s71 : ((List Int) × Int)) (e : Fw.Env) => ∃ (j72 : Option Sv), e = [none, some ((sL (sF eI)) s71.1), some ((sF eI) cell62), some ((sF eI) s71.2), j66, j72, none])) (cons_ok rfl rfl) (it_r1 (small_of (by decide) (by decide))) rfl rfl ⟨_, rfl⟩ ?_ ?_
    · rintro k81 ⟨draws79, number80⟩ _ ⟨j72, rfl⟩
      refine ⟨[none, some ((sL (sF eI)) draws79), some ((sF eI) cell62), some ((sF eI) number80), j66, some ((sF eI) k81), none], rfl, ?_⟩
      show Blk _ (pl_law_draws_3 k81 draws79 number80) _
      unfold pl_law_draws_3 l__law_draws_1
      refine Blk.last ?_
      refine Blk.ite (E1 := [none, some ((sL (sF eI)) draws79), some ((sF eI) cell62), some ((sF eI) number80), j66, some ((sF eI) k81), none]) (tb (bnk (a := .r 3) (b := .v ((sF eI) 0)) rfl rfl g_gt rfl rfl rfl)) (fun hb => ?_) (fun hb => ?_)
      · refine Blk.assoc ?_
        refine Blk.bind fun l82 h_l82 => ?_
        refine Blk.nx (E1 := [none, some ((sL (sF eI)) l82), some ((sF eI) cell62), some ((sF eI) number80), j66, some ((sF eI) k81), none]) (drop_next (me (E1 := [none, some ((sL (sF eI)) draws79), some ((sF eI) cell62), some ((sF eI) number80), j66, some ((sF eI) k81), none]) (E2 := [none, some ((sL (sF eI)) draws79), some ((sF eI) cell62), some ((sF eI) number80), j66, some ((sF eI) k81), none]) (E4 := [none, some ((sL (sF eI)) l82), some ((sF eI) cell62), some ((sF eI) number80), j66, some ((sF eI) k81), none]) (a := .r 1) (as := [.v ((sF eI) (Int.fmod number80 997))]) rfl rfl (cons_ok (bnk (a := .v ((sF eI) number80)) (b := .v ((sF eI) 997)) (clk (as := [.r 3]) (cons_ok rfl rfl) g_int rfl rfl rfl) rfl (g_mod rfl) rfl rfl rfl) rfl) (g_app (e := eI) h_l82) rfl rfl rfl)) ?_
        refine Blk.nx (E1 := [none, some ((sL (sF eI)) l82), some ((sF eI) cell62), some ((sF eI) (Int.fdiv number80 997)), j66, some ((sF eI) k81), none]) (st_set (E1 := [none, some ((sL (sF eI)) l82), some ((sF eI) cell62), some ((sF eI) number80), j66, some ((sF eI) k81), none]) (bnk (a := .r 3) (b := .v ((sF eI) 997)) rfl rfl (g_div rfl) rfl rfl rfl) (show 3 < 7 by decide) rfl) ?_
        exact Blk.fin ⟨_, .inl rfl, _, rfl⟩
      · refine Blk.nx (E1 := [none, some ((sL (sF eI)) draws79), some ((sF eI) cell62), some ((sF eI) number80), j66, some ((sF eI) k81), none]) rfl ?_
        exact Blk.fin ⟨_, .inl rfl, _, rfl⟩
    rintro s84 _ ⟨j85, rfl⟩
    refine Blk.env (E' := [none, some ((sL (sF eI)) s84.1), some ((sF eI) cell62), some ((sF eI) s84.2), j66, j85, none]) ?_ rfl
    exact Blk.fin ⟨_, .inl rfl, _, _, _, _, rfl⟩
  rintro s87 _ ⟨j88, j89, j90, j91, rfl⟩
  refine Blk.env (E' := [some ((sF (eL eI)) script1), some ((sL (sF eI)) s87), j88, j89, j90, j91, none]) ?_ rfl
  refine Blk.assoc ?_
  refine Blk.nx (E1 := [some ((sF (eL eI)) script1), some ((sL (sF eI)) s87), j88, j89, j90, j91, some ((sF eI) 1)]) (st_set (E1 := [some ((sF (eL eI)) script1), some ((sL (sF eI)) s87), j88, j89, j90, j91, none]) rfl (show 6 < 7 by decide) rfl) ?_
  refine Blk.assoc ?_
  refine Blk.joinQ (P := (fun (s93 : Int) (e : Fw.Env) => e = [some ((sF (eL eI)) script1), some ((sL (sF eI)) s87), j88, j89, j90, j91, some ((sF eI) s93)])) (Blk.ife (E1 := [some ((sF (eL eI)) script1), some ((sL (sF eI)) s87), j88, j89, j90, j91, some ((sF eI) 1)]) (tb (bnk (a := .v ((sF eI) (script1.length : Int))) (b := .v ((sF eI) 0)) (clk (as := [.r 0]) (cons_ok rfl rfl) (g_len_l (e := eI)) rfl rfl rfl) rfl g_gt rfl rfl rfl)) (fun hb => Blk.last ?_) (fun hb => Blk.last ?_)) ?_
  · refine Blk.bind fun t94 h_t94 => ?_
    refine Blk.nx (E1 := [some ((sF (eL eI)) script1), some ((sL (sF eI)) s87), j88, j89, j90, j91, some ((sF eI) (1 + (absI t94)))]) (st_set (E1 := [some ((sF (eL eI)) script1), some ((sL (sF eI)) s87), j88, j89, j90, j91, some ((sF eI) 1)]) (bnk (a := .v ((sF eI) 1)) (b := .v ((sF eI) (absI t94))) rfl (clk (as := [.v ((sF eI) t94)]) (cons_ok (bnk (a := .r 0) (b := .v ((sF eI) 0)) rfl rfl (g_ix_l (e := eI) h_t94) rfl rfl rfl) rfl) g_abs rfl rfl rfl) g_add rfl rfl rfl) (show 6 < 7 by decide) rfl) ?_
    exact Blk.fin ⟨_, rfl, rfl⟩
  · refine Blk.nx (E1 := [some ((sF (eL eI)) script1), some ((sL (sF eI)) s87), j88, j89, j90, j91, some ((sF eI) 1)]) rfl ?_
    exact Blk.fin ⟨_, rfl, rfl⟩
  rintro s93 _ rfl
  refine Blk.assoc ?_
  refine Blk.forO (E1 := [some ((sF (eL eI)) script1), some ((sL (sF eI)) s87), j88, j89, j90, j91, some ((sF eI) s93)]) (E2 := [some ((sF (eL eI)) script1), some ((sL (sF eI)) s87), j88, j89, j90, j91, some ((sF eI) s93)]) (as := [.v ((sF eI) 160)]) (ss := [((sF eI) 160)]) (P := (fun (s97 : ((List Int) × Int)) (e : Fw.Env) => ∃ (j98 : Option Sv), e = [some ((sF (eL eI)) script1), some ((sL (sF eI)) s97.1), j88, j89, j90, j98, some ((sF eI) s97.2)])) (cons_ok rfl rfl) (it_r1 (small_of (by decide) (by decide))) rfl rfl ⟨_, rfl⟩ ?_ ?_
  · rintro k107 ⟨draws105, seed106⟩ _ ⟨j98, rfl⟩
    refine ⟨[some ((sF (eL eI)) script1), some ((sL (sF eI)) draws105), j88, j89, j90, some ((sF eI) k107), some ((sF eI) seed106)], rfl, ?_⟩
    show Blk _ (pl_law_draws_5 k107 draws105 seed106) _
    unfold pl_law_draws_5 l__law_draws_3
    refine Blk.last ?_
    refine Blk.assoc ?_
    refine Blk.nx (E1 := [some ((sF (eL eI)) script1), some ((sL (sF eI)) draws105), j88, j89, j90, some ((sF eI) k107), some ((sF eI) (Int.fmod ((seed106 * 48271) + 69621) 2147483647))]) (st_set (E1 := [some ((sF (eL eI)) script1), some ((sL (sF eI)) draws105), j88, j89, j90, some ((sF eI) k107), some ((sF eI) seed106)]) (bnk (a := .v ((sF eI) ((seed106 * 48271) + 69621))) (b := .v ((sF eI) 2147483647)) (clk (as := [.v ((sF eI) ((seed106 * 48271) + 69621))]) (cons_ok (bnk (a := .v ((sF eI) (seed106 * 48271))) (b := .v ((sF eI) 69621)) (bnk (a := .r 6) (b := .v ((sF eI) 48271)) rfl rfl (g_mul (pm_r (by decide))) rfl rfl rfl) rfl g_add rfl rfl rfl) rfl) g_int rfl rfl rfl) rfl (g_mod rfl) rfl rfl rfl) (show 6 < 7 by decide) rfl) ?_
    refine Blk.bind fun l108 h_l108 => ?_
    refine Blk.nx (E1 := [some ((sF (eL eI)) script1), some ((sL (sF eI)) l108), j88, j89, j90, some ((sF eI) k107), some ((sF eI) (Int.fmod ((seed106 * 48271) + 69621) 2147483647))]) (drop_next (me (E1 := [some ((sF (eL eI)) script1), some ((sL (sF eI)) draws105), j88, j89, j90, some ((sF eI) k107), some ((sF eI) (Int.fmod ((seed106 * 48271) + 69621) 2147483647))]) (E2 := [some ((sF (eL eI)) script1), some ((sL (sF eI)) draws105), j88, j89, j90, some ((sF eI) k107), some ((sF eI) (Int.fmod ((seed106 * 48271) + 69621) 2147483647))]) (E4 := [some ((sF (eL eI)) script1), some ((sL (sF eI)) l108), j88, j89, j90, some ((sF eI) k107), some ((sF eI) (Int.fmod ((seed106 * 48271) + 69621) 2147483647))]) (a := .r 1) (as := [.v ((sF eI) (Int.fdiv (Int.fmod ((seed106 * 48271) + 69621) 2147483647) 5))]) rfl rfl (cons_ok (bnk (a := .r 6) (b := .v ((sF eI) 5)) rfl rfl (g_div rfl) rfl rfl rfl) rfl) (g_app (e := eI) h_l108) rfl rfl rfl)) ?_
    exact Blk.fin ⟨_, .inl rfl, _, rfl⟩
  rintro s110 _ ⟨j111, rfl⟩
  refine Blk.env (E' := [some ((sF (eL eI)) script1), some ((sL (sF eI)) s110.1), j88, j89, j90, j111, some ((sF eI) s110.2)]) ?_ rfl
  refine Blk.ret (s := ((sL (sF eI)) s110.1.reverse)) (E1 := [some ((sF (eL eI)) script1), some ((sL (sF eI)) s110.1), j88, j89, j90, j111, some ((sF eI) s110.2)]) (ret_ret (unk (a := .r 1) rfl (g_lrev (s := ((sL (sF eI)) s110.1)) (e := eI) elemsL_o) rfl rfl rfl)) ?_
  exact Blk.fin ⟨_, .inl rfl, rfl⟩
noncomputable def p_law_take (draws1 : (List Int)) (bound2 : Int) : Option (Int × (List Int)) :=
  if decide ((draws1.length : Int) = 0) then
    some (0, draws1)
  else
  (draws1.getLast?).bind fun t3 =>
  (okO (pMod t3 bound2) ()).bind fun u4 =>
  some ((Int.fmod t3 bound2), draws1.dropLast)
theorem s_law_take {draws1 : (List Int)} {bound2 : Int} {c : (Int × (List Int))} (h : p_law_take draws1 bound2 = some c) : f__law_take [(sL (sF eI)) draws1, (sF eI) bound2] = .ok ((sF eI) c.1, [some ((sL (sF eI)) c.2), some ((sF eI) bound2)]) := by
  refine fn_of (P := [true, true]) (E := [some ((sL (sF eI)) draws1), some ((sF eI) bound2)]) (R := fun (c : (Int × (List Int))) => (sF eI) c.1) (O := fun (c : (Int × (List Int))) => [some ((sL (sF eI)) c.2), some ((sF eI) bound2)]) (p := p_law_take draws1 bound2) ?_ h rfl rfl
  unfold p_law_take b__law_take
  refine Blk.last ?_
  refine Blk.assoc ?_
  refine Blk.ite (E1 := [some ((sL (sF eI)) draws1), some ((sF eI) bound2)]) (tb (bnk (a := .v ((sF eI) (draws1.length : Int))) (b := .v ((sF eI) 0)) (clk (as := [.r 0]) (cons_ok rfl rfl) (g_len_o (s := (sF eI))) rfl rfl rfl) rfl (g_eq (e := eI) (s := ((sF eI) (draws1.length : Int))) (t := ((sF eI) 0)) dt_f dt_f (by decide)) rfl rfl rfl)) (fun hb => ?_) (fun hb => ?_)
  · refine Blk.ret (s := ((sF eI) 0)) (E1 := [some ((sL (sF eI)) draws1), some ((sF eI) bound2)]) (ret_ret rfl) ?_
    exact Blk.fin ⟨_, .inl rfl, rfl⟩
  · refine Blk.nx (E1 := [some ((sL (sF eI)) draws1), some ((sF eI) bound2)]) rfl ?_
    refine Blk.bind fun t3 h_t3 => ?_
    refine Blk.bind fun u4 h_u4 => ?_
    refine Blk.ret (s := ((sF eI) (Int.fmod t3 bound2))) (E1 := [some ((sL (sF eI)) draws1.dropLast), some ((sF eI) bound2)]) (ret_ret (bn (E1 := [some ((sL (sF eI)) draws1.dropLast), some ((sF eI) bound2)]) (E2 := [some ((sL (sF eI)) draws1.dropLast), some ((sF eI) bound2)]) (E4 := [some ((sL (sF eI)) draws1.dropLast), some ((sF eI) bound2)]) (a := .v ((sF eI) t3)) (b := .r 1) (cl (E1 := [some ((sL (sF eI)) draws1.dropLast), some ((sF eI) bound2)]) (E4 := [some ((sL (sF eI)) draws1.dropLast), some ((sF eI) bound2)]) (as := [.v ((sF eI) t3)]) (cons_ok (me0 (E1 := [some ((sL (sF eI)) draws1), some ((sF eI) bound2)]) (E4 := [some ((sL (sF eI)) draws1.dropLast), some ((sF eI) bound2)]) (a := .r 0) rfl rfl (g_pop (sF eI) h_t3) rfl rfl rfl) rfl) g_int rfl rfl rfl) rfl (g_mod (okO_some h_u4).1) rfl rfl rfl)) ?_
    exact Blk.fin ⟨_, .inl rfl, rfl⟩
noncomputable def p_law_pick (draws1 : (List Int)) (items2 : (List Wd)) : Option (Wd × (List Int)) :=
  (p_law_take draws1 (items2.length : Int)).bind fun c3 =>
  (atI items2 c3.1).bind fun t4 =>
  some (t4, c3.2)
theorem s_law_pick {draws1 : (List Int)} {items2 : (List Wd)} {c : (Wd × (List Int))} (h : p_law_pick draws1 items2 = some c) : f__law_pick [(sL (sF eI)) draws1, (sL (sF eX)) items2] = .ok ((sF eX) c.1, [some ((sL (sF eI)) c.2), some ((sL (sF eX)) items2)]) := by
  refine fn_of (P := [true, true]) (E := [some ((sL (sF eI)) draws1), some ((sL (sF eX)) items2)]) (R := fun (c : (Wd × (List Int))) => (sF eX) c.1) (O := fun (c : (Wd × (List Int))) => [some ((sL (sF eI)) c.2), some ((sL (sF eX)) items2)]) (p := p_law_pick draws1 items2) ?_ h rfl rfl
  unfold p_law_pick b__law_pick
  refine Blk.last ?_
  refine Blk.bind fun c3 h_c3 => ?_
  refine Blk.bind fun t4 h_t4 => ?_
  refine Blk.ret (s := ((sF eX) t4)) (E1 := [some ((sL (sF eI)) c3.2), some ((sL (sF eX)) items2)]) (ret_ret (bn (E1 := [some ((sL (sF eI)) draws1), some ((sL (sF eX)) items2)]) (E2 := [some ((sL (sF eI)) c3.2), some ((sL (sF eX)) items2)]) (E4 := [some ((sL (sF eI)) c3.2), some ((sL (sF eX)) items2)]) (a := .r 1) (b := .v ((sF eI) c3.1)) rfl (ow (E1 := [some ((sL (sF eI)) draws1), some ((sL (sF eX)) items2)]) (E4 := [some ((sL (sF eI)) c3.2), some ((sL (sF eX)) items2)]) (as := [.r 0, .v ((sF eI) (items2.length : Int))]) (cons_ok rfl (cons_ok (clk (as := [.r 1]) (cons_ok rfl rfl) (g_len_o (s := (sF eX))) rfl rfl rfl) rfl)) (s_law_take h_c3) rfl rfl) (g_ix_o (e := eX) h_t4) rfl rfl rfl)) ?_
  exact Blk.fin ⟨_, .inl rfl, rfl⟩
noncomputable def p_law_word (draws1 : (List Int)) : Option (Wd × (List Int)) :=
  (p_law_take draws1 4).bind fun c2 =>
  if decide (c2.1 = 0) then
    (p_law_take c2.2 4).bind fun c3 =>
    (okO (small62 (1 + c3.1)) ()).bind fun u4 =>
    (cmpS (fun (k5 : Int) (s7 : (List Int)) => (p_law_pick s7 [([97] : Wd), ([114, 101, 100] : Wd), ([97, 110, 110] : Wd), ([122] : Wd), ([97, 98, 99, 100, 101, 102, 103, 104, 105, 106, 107, 108] : Wd), ([97, 98, 99, 100, 101, 102, 103, 104, 105, 106, 107, 108, 109] : Wd), ([48] : Wd), ([55] : Wd), ([49, 50] : Wd), ([49, 50, 51, 52, 53, 54, 55, 56, 57] : Wd), ([65] : Wd), ([95] : Wd), ([40] : Wd), ([41] : Wd), ([44] : Wd), ([] : Wd)]).bind fun c8 => some (some c8.1, c8.2)) (rgL 0 (1 + c3.1).toNat) c3.2).bind fun z9 =>
    (capO z9.1).bind fun l10 =>
    (okO (okJ ([] : Wd) l10) ()).bind fun u11 =>
    some ((joinX ([] : Wd) l10), z9.2)
  else
  if decide (c2.1 = 1) then
    (p_law_take c2.2 11).bind fun c12 =>
    (okO (small62 (1 + c12.1)) ()).bind fun u13 =>
    (cmpS (fun (k14 : Int) (s17 : (List Int)) => (okO (okX ([48, 49, 50, 51, 52, 53, 54, 55, 56, 57, 48] : Wd)) ()).bind fun u18 => (p_law_pick s17 (chs ([48, 49, 50, 51, 52, 53, 54, 55, 56, 57, 48] : Wd))).bind fun c19 => some (some c19.1, c19.2)) (rgL 0 (1 + c12.1).toNat) c12.2).bind fun z20 =>
    (capO z20.1).bind fun l21 =>
    (okO (okJ ([] : Wd) l21) ()).bind fun u22 =>
    some ((joinX ([] : Wd) l21), z20.2)
  else
  if decide (c2.1 = 2) then
    (p_law_take c2.2 14).bind fun c23 =>
    (okO (small62 (1 + c23.1)) ()).bind fun u24 =>
    (cmpS (fun (k25 : Int) (s28 : (List Int)) => (okO (okX ([97, 98, 109, 122] : Wd)) ()).bind fun u29 => (p_law_pick s28 (chs ([97, 98, 109, 122] : Wd))).bind fun c30 => some (some c30.1, c30.2)) (rgL 0 (1 + c23.1).toNat) c23.2).bind fun z31 =>
    (capO z31.1).bind fun l32 =>
    (okO (okJ ([] : Wd) l32) ()).bind fun u33 =>
    some ((joinX ([] : Wd) l32), z31.2)
  else
  (p_law_take c2.2 4).bind fun c34 =>
  (okO (small62 (1 + c34.1)) ()).bind fun u35 =>
  (cmpS (fun (k36 : Int) (s38 : (List Int)) => (p_law_pick s38 (cutL [([97] : Wd), ([114, 101, 100] : Wd), ([97, 110, 110] : Wd), ([122] : Wd), ([97, 98, 99, 100, 101, 102, 103, 104, 105, 106, 107, 108] : Wd), ([97, 98, 99, 100, 101, 102, 103, 104, 105, 106, 107, 108, 109] : Wd), ([48] : Wd), ([55] : Wd), ([49, 50] : Wd), ([49, 50, 51, 52, 53, 54, 55, 56, 57] : Wd), ([65] : Wd), ([95] : Wd), ([40] : Wd), ([41] : Wd), ([44] : Wd), ([] : Wd)] none (some 5))).bind fun c39 => some (some c39.1, c39.2)) (rgL 0 (1 + c34.1).toNat) c34.2).bind fun z40 =>
  (capO z40.1).bind fun l41 =>
  (p_law_pick z40.2 (cutL [([97] : Wd), ([114, 101, 100] : Wd), ([97, 110, 110] : Wd), ([122] : Wd), ([97, 98, 99, 100, 101, 102, 103, 104, 105, 106, 107, 108] : Wd), ([97, 98, 99, 100, 101, 102, 103, 104, 105, 106, 107, 108, 109] : Wd), ([48] : Wd), ([55] : Wd), ([49, 50] : Wd), ([49, 50, 51, 52, 53, 54, 55, 56, 57] : Wd), ([65] : Wd), ([95] : Wd), ([40] : Wd), ([41] : Wd), ([44] : Wd), ([] : Wd)] none (some 5))).bind fun c42 =>
  (capO (c42.1 ++ ([40] : Wd))).bind fun w43 =>
  (okO (okJ ([44] : Wd) l41) ()).bind fun u44 =>
  (capO (w43 ++ (joinX ([44] : Wd) l41))).bind fun w45 =>
  (capO (w45 ++ ([41] : Wd))).bind fun w46 =>
  (okO (okX w46) ()).bind fun u47 =>
  (p_law_take c42.2 (w46.length : Int)).bind fun c48 =>
  (p_law_take c48.2 5).bind fun c49 =>
  (if decide (c49.1 = 0) then
    (okO (okX w46) ()).bind fun u54 =>
    (okO (okX w46) ()).bind fun u55 =>
    (capO ((cutL w46 none (some c48.1)) ++ (cutL w46 (some (c48.1 + 1)) none))).bind fun w56 =>
    some w56
  else
  some w46).bind fun s53 =>
  (if decide (c49.1 = 1) then
    (okO (okX s53) ()).bind fun u63 =>
    (p_law_pick c49.2 [([97] : Wd), ([114, 101, 100] : Wd), ([97, 110, 110] : Wd), ([122] : Wd), ([97, 98, 99, 100, 101, 102, 103, 104, 105, 106, 107, 108] : Wd), ([97, 98, 99, 100, 101, 102, 103, 104, 105, 106, 107, 108, 109] : Wd), ([48] : Wd), ([55] : Wd), ([49, 50] : Wd), ([49, 50, 51, 52, 53, 54, 55, 56, 57] : Wd), ([65] : Wd), ([95] : Wd), ([40] : Wd), ([41] : Wd), ([44] : Wd), ([] : Wd)]).bind fun c64 =>
    (capO ((cutL s53 none (some c48.1)) ++ c64.1)).bind fun w65 =>
    (okO (okX s53) ()).bind fun u66 =>
    (capO (w65 ++ (cutL s53 (some c48.1) none))).bind fun w67 =>
    some (c64.2, w67)
  else
  some (c49.2, s53)).bind fun s62 =>
  some (s62.2, s62.1)
theorem s_law_word {draws1 : (List Int)} {c : (Wd × (List Int))} (h : p_law_word draws1 = some c) : f__law_word [(sL (sF eI)) draws1] = .ok ((sF eX) c.1, [some ((sL (sF eI)) c.2)]) := by
  refine fn_of (P := [true]) (E := [some ((sL (sF eI)) draws1), none, none, none, none, none, none, none]) (R := fun (c : (Wd × (List Int))) => (sF eX) c.1) (O := fun (c : (Wd × (List Int))) => [some ((sL (sF eI)) c.2)]) (p := p_law_word draws1) ?_ h rfl rfl
  unfold p_law_word b__law_word
  refine Blk.last ?_
  refine Blk.assoc ?_
  refine Blk.nx (E1 := [some ((sL (sF eI)) draws1), some ((sL (sF eX)) [([97] : Wd), ([114, 101, 100] : Wd), ([97, 110, 110] : Wd), ([122] : Wd), ([97, 98, 99, 100, 101, 102, 103, 104, 105, 106, 107, 108] : Wd), ([97, 98, 99, 100, 101, 102, 103, 104, 105, 106, 107, 108, 109] : Wd), ([48] : Wd), ([55] : Wd), ([49, 50] : Wd), ([49, 50, 51, 52, 53, 54, 55, 56, 57] : Wd), ([65] : Wd), ([95] : Wd), ([40] : Wd), ([41] : Wd), ([44] : Wd), ([] : Wd)]), none, none, none, none, none, none]) (st_set (E1 := [some ((sL (sF eI)) draws1), none, none, none, none, none, none, none]) (lst_ok (ss := [((sF eX) ([97] : Wd)), ((sF eX) ([114, 101, 100] : Wd)), ((sF eX) ([97, 110, 110] : Wd)), ((sF eX) ([122] : Wd)), ((sF eX) ([97, 98, 99, 100, 101, 102, 103, 104, 105, 106, 107, 108] : Wd)), ((sF eX) ([97, 98, 99, 100, 101, 102, 103, 104, 105, 106, 107, 108, 109] : Wd)), ((sF eX) ([48] : Wd)), ((sF eX) ([55] : Wd)), ((sF eX) ([49, 50] : Wd)), ((sF eX) ([49, 50, 51, 52, 53, 54, 55, 56, 57] : Wd)), ((sF eX) ([65] : Wd)), ((sF eX) ([95] : Wd)), ((sF eX) ([40] : Wd)), ((sF eX) ([41] : Wd)), ((sF eX) ([44] : Wd)), ((sF eX) ([] : Wd))]) (cons_ok (cx lx8x) (cons_ok (cx lx9x) (cons_ok (cx lx10x) (cons_ok (cx lx11x) (cons_ok (cx lx12x) (cons_ok (cx lx13x) (cons_ok (cx lx14x) (cons_ok (cx lx15x) (cons_ok (cx lx16x) (cons_ok (cx lx17x) (cons_ok (cx lx18x) (cons_ok (cx lx19x) (cons_ok (cx lx20x) (cons_ok (cx lx21x) (cons_ok (cx lx22x) (cons_ok (cx lx0x) rfl)))))))))))))))) rfl (show 16 ≤ 1000 by decide)) (show 1 < 8 by decide) rfl) ?_
  refine Blk.assoc ?_
  refine Blk.bind fun c2 h_c2 => ?_
  refine Blk.nx (E1 := [some ((sL (sF eI)) c2.2), some ((sL (sF eX)) [([97] : Wd), ([114, 101, 100] : Wd), ([97, 110, 110] : Wd), ([122] : Wd), ([97, 98, 99, 100, 101, 102, 103, 104, 105, 106, 107, 108] : Wd), ([97, 98, 99, 100, 101, 102, 103, 104, 105, 106, 107, 108, 109] : Wd), ([48] : Wd), ([55] : Wd), ([49, 50] : Wd), ([49, 50, 51, 52, 53, 54, 55, 56, 57] : Wd), ([65] : Wd), ([95] : Wd), ([40] : Wd), ([41] : Wd), ([44] : Wd), ([] : Wd)]), some ((sF eI) c2.1), none, none, none, none, none]) (st_set (E1 := [some ((sL (sF eI)) c2.2), some ((sL (sF eX)) [([97] : Wd), ([114, 101, 100] : Wd), ([97, 110, 110] : Wd), ([122] : Wd), ([97, 98, 99, 100, 101, 102, 103, 104, 105, 106, 107, 108] : Wd), ([97, 98, 99, 100, 101, 102, 103, 104, 105, 106, 107, 108, 109] : Wd), ([48] : Wd), ([55] : Wd), ([49, 50] : Wd), ([49, 50, 51, 52, 53, 54, 55, 56, 57] : Wd), ([65] : Wd), ([95] : Wd), ([40] : Wd), ([41] : Wd), ([44] : Wd), ([] : Wd)]), none, none, none, none, none, none]) (ow (E1 := [some ((sL (sF eI)) draws1), some ((sL (sF eX)) [([97] : Wd), ([114, 101, 100] : Wd), ([97, 110, 110] : Wd), ([122] : Wd), ([97, 98, 99, 100, 101, 102, 103, 104, 105, 106, 107, 108] : Wd), ([97, 98, 99, 100, 101, 102, 103, 104, 105, 106, 107, 108, 109] : Wd), ([48] : Wd), ([55] : Wd), ([49, 50] : Wd), ([49, 50, 51, 52, 53, 54, 55, 56, 57] : Wd), ([65] : Wd), ([95] : Wd), ([40] : Wd), ([41] : Wd), ([44] : Wd), ([] : Wd)]), none, none, none, none, none, none]) (E4 := [some ((sL (sF eI)) c2.2), some ((sL (sF eX)) [([97] : Wd), ([114, 101, 100] : Wd), ([97, 110, 110] : Wd), ([122] : Wd), ([97, 98, 99, 100, 101, 102, 103, 104, 105, 106, 107, 108] : Wd), ([97, 98, 99, 100, 101, 102, 103, 104, 105, 106, 107, 108, 109] : Wd), ([48] : Wd), ([55] : Wd), ([49, 50] : Wd), ([49, 50, 51, 52, 53, 54, 55, 56, 57] : Wd), ([65] : Wd), ([95] : Wd), ([40] : Wd), ([41] : Wd), ([44] : Wd), ([] : Wd)]), none, none, none, none, none, none]) (as := [.r 0, .v ((sF eI) 4)]) (cons_ok rfl (cons_ok rfl rfl)) (s_law_take h_c2) rfl rfl) (show 2 < 8 by decide) rfl) ?_
  refine Blk.assoc ?_
  refine Blk.ite (E1 := [some ((sL (sF eI)) c2.2), some ((sL (sF eX)) [([97] : Wd), ([114, 101, 100] : Wd), ([97, 110, 110] : Wd), ([122] : Wd), ([97, 98, 99, 100, 101, 102, 103, 104, 105, 106, 107, 108] : Wd), ([97, 98, 99, 100, 101, 102, 103, 104, 105, 106, 107, 108, 109] : Wd), ([48] : Wd), ([55] : Wd), ([49, 50] : Wd), ([49, 50, 51, 52, 53, 54, 55, 56, 57] : Wd), ([65] : Wd), ([95] : Wd), ([40] : Wd), ([41] : Wd), ([44] : Wd), ([] : Wd)]), some ((sF eI) c2.1), none, none, none, none, none]) (tb (bnk (a := .r 2) (b := .v ((sF eI) 0)) rfl rfl (g_eq (e := eI) (s := ((sF eI) c2.1)) (t := ((sF eI) 0)) dt_f dt_f (by decide)) rfl rfl rfl)) (fun hb => ?_) (fun hb => ?_)
  · refine Blk.bind fun c3 h_c3 => ?_
    refine Blk.bind fun u4 h_u4 => ?_
    refine Blk.bind fun z9 h_z9 => ?_
    refine Blk.bind fun l10 h_l10 => ?_
    refine Blk.bind fun u11 h_u11 => ?_
    refine Blk.ret (s := ((sF eX) (joinX ([] : Wd) l10))) (E1 := [some ((sL (sF eI)) z9.2), some ((sL (sF eX)) [([97] : Wd), ([114, 101, 100] : Wd), ([97, 110, 110] : Wd), ([122] : Wd), ([97, 98, 99, 100, 101, 102, 103, 104, 105, 106, 107, 108] : Wd), ([97, 98, 99, 100, 101, 102, 103, 104, 105, 106, 107, 108, 109] : Wd), ([48] : Wd), ([55] : Wd), ([49, 50] : Wd), ([49, 50, 51, 52, 53, 54, 55, 56, 57] : Wd), ([65] : Wd), ([95] : Wd), ([40] : Wd), ([41] : Wd), ([44] : Wd), ([] : Wd)]), some ((sF eI) c2.1), none, none, none, none, none]) (ret_ret (me (E1 := [some ((sL (sF eI)) c2.2), some ((sL (sF eX)) [([97] : Wd), ([114, 101, 100] : Wd), ([97, 110, 110] : Wd), ([122] : Wd), ([97, 98, 99, 100, 101, 102, 103, 104, 105, 106, 107, 108] : Wd), ([97, 98, 99, 100, 101, 102, 103, 104, 105, 106, 107, 108, 109] : Wd), ([48] : Wd), ([55] : Wd), ([49, 50] : Wd), ([49, 50, 51, 52, 53, 54, 55, 56, 57] : Wd), ([65] : Wd), ([95] : Wd), ([40] : Wd), ([41] : Wd), ([44] : Wd), ([] : Wd)]), some ((sF eI) c2.1), none, none, none, none, none]) (E2 := [some ((sL (sF eI)) z9.2), some ((sL (sF eX)) [([97] : Wd), ([114, 101, 100] : Wd), ([97, 110, 110] : Wd), ([122] : Wd), ([97, 98, 99, 100, 101, 102, 103, 104, 105, 106, 107, 108] : Wd), ([97, 98, 99, 100, 101, 102, 103, 104, 105, 106, 107, 108, 109] : Wd), ([48] : Wd), ([55] : Wd), ([49, 50] : Wd), ([49, 50, 51, 52, 53, 54, 55, 56, 57] : Wd), ([65] : Wd), ([95] : Wd), ([40] : Wd), ([41] : Wd), ([44] : Wd), ([] : Wd)]), some ((sF eI) c2.1), none, none, none, none, none]) (E4 := [some ((sL (sF eI)) z9.2), some ((sL (sF eX)) [([97] : Wd), ([114, 101, 100] : Wd), ([97, 110, 110] : Wd), ([122] : Wd), ([97, 98, 99, 100, 101, 102, 103, 104, 105, 106, 107, 108] : Wd), ([97, 98, 99, 100, 101, 102, 103, 104, 105, 106, 107, 108, 109] : Wd), ([48] : Wd), ([55] : Wd), ([49, 50] : Wd), ([49, 50, 51, 52, 53, 54, 55, 56, 57] : Wd), ([65] : Wd), ([95] : Wd), ([40] : Wd), ([41] : Wd), ([44] : Wd), ([] : Wd)]), some ((sF eI) c2.1), none, none, none, none, none]) (a := .v ((sF eX) ([] : Wd))) (as := [.v ((sL (sF eX)) l10)]) (cx lx0x) rfl (cons_ok (lc (e := eI) (sv := (sF eX)) (E2 := [some ((sL (sF eI)) c3.2), some ((sL (sF eX)) [([97] : Wd), ([114, 101, 100] : Wd), ([97, 110, 110] : Wd), ([122] : Wd), ([97, 98, 99, 100, 101, 102, 103, 104, 105, 106, 107, 108] : Wd), ([97, 98, 99, 100, 101, 102, 103, 104, 105, 106, 107, 108, 109] : Wd), ([48] : Wd), ([55] : Wd), ([49, 50] : Wd), ([49, 50, 51, 52, 53, 54, 55, 56, 57] : Wd), ([65] : Wd), ([95] : Wd), ([40] : Wd), ([41] : Wd), ([44] : Wd), ([] : Wd)]), some ((sF eI) c2.1), none, none, none, none, none]) (E3 := [some ((sL (sF eI)) z9.2), some ((sL (sF eX)) [([97] : Wd), ([114, 101, 100] : Wd), ([97, 110, 110] : Wd), ([122] : Wd), ([97, 98, 99, 100, 101, 102, 103, 104, 105, 106, 107, 108] : Wd), ([97, 98, 99, 100, 101, 102, 103, 104, 105, 106, 107, 108, 109] : Wd), ([48] : Wd), ([55] : Wd), ([49, 50] : Wd), ([49, 50, 51, 52, 53, 54, 55, 56, 57] : Wd), ([65] : Wd), ([95] : Wd), ([40] : Wd), ([41] : Wd), ([44] : Wd), ([] : Wd)]), some ((sF eI) c2.1), none, none, none, none, none]) (E4 := [some ((sL (sF eI)) z9.2), some ((sL (sF eX)) [([97] : Wd), ([114, 101, 100] : Wd), ([97, 110, 110] : Wd), ([122] : Wd), ([97, 98, 99, 100, 101, 102, 103, 104, 105, 106, 107, 108] : Wd), ([97, 98, 99, 100, 101, 102, 103, 104, 105, 106, 107, 108, 109] : Wd), ([48] : Wd), ([55] : Wd), ([49, 50] : Wd), ([49, 50, 51, 52, 53, 54, 55, 56, 57] : Wd), ([65] : Wd), ([95] : Wd), ([40] : Wd), ([41] : Wd), ([44] : Wd), ([] : Wd)]), some ((sF eI) c2.1), none, none, none, none, none]) (as := [.v ((sF eI) (1 + c3.1))]) (ss := [((sF eI) (1 + c3.1))]) (cons_ok (bn (E1 := [some ((sL (sF eI)) c2.2), some ((sL (sF eX)) [([97] : Wd), ([114, 101, 100] : Wd), ([97, 110, 110] : Wd), ([122] : Wd), ([97, 98, 99, 100, 101, 102, 103, 104, 105, 106, 107, 108] : Wd), ([97, 98, 99, 100, 101, 102, 103, 104, 105, 106, 107, 108, 109] : Wd), ([48] : Wd), ([55] : Wd), ([49, 50] : Wd), ([49, 50, 51, 52, 53, 54, 55, 56, 57] : Wd), ([65] : Wd), ([95] : Wd), ([40] : Wd), ([41] : Wd), ([44] : Wd), ([] : Wd)]), some ((sF eI) c2.1), none, none, none, none, none]) (E2 := [some ((sL (sF eI)) c3.2), some ((sL (sF eX)) [([97] : Wd), ([114, 101, 100] : Wd), ([97, 110, 110] : Wd), ([122] : Wd), ([97, 98, 99, 100, 101, 102, 103, 104, 105, 106, 107, 108] : Wd), ([97, 98, 99, 100, 101, 102, 103, 104, 105, 106, 107, 108, 109] : Wd), ([48] : Wd), ([55] : Wd), ([49, 50] : Wd), ([49, 50, 51, 52, 53, 54, 55, 56, 57] : Wd), ([65] : Wd), ([95] : Wd), ([40] : Wd), ([41] : Wd), ([44] : Wd), ([] : Wd)]), some ((sF eI) c2.1), none, none, none, none, none]) (E4 := [some ((sL (sF eI)) c3.2), some ((sL (sF eX)) [([97] : Wd), ([114, 101, 100] : Wd), ([97, 110, 110] : Wd), ([122] : Wd), ([97, 98, 99, 100, 101, 102, 103, 104, 105, 106, 107, 108] : Wd), ([97, 98, 99, 100, 101, 102, 103, 104, 105, 106, 107, 108, 109] : Wd), ([48] : Wd), ([55] : Wd), ([49, 50] : Wd), ([49, 50, 51, 52, 53, 54, 55, 56, 57] : Wd), ([65] : Wd), ([95] : Wd), ([40] : Wd), ([41] : Wd), ([44] : Wd), ([] : Wd)]), some ((sF eI) c2.1), none, none, none, none, none]) (a := .v ((sF eI) 1)) (b := .v ((sF eI) c3.1)) rfl (ow (E1 := [some ((sL (sF eI)) c2.2), some ((sL (sF eX)) [([97] : Wd), ([114, 101, 100] : Wd), ([97, 110, 110] : Wd), ([122] : Wd), ([97, 98, 99, 100, 101, 102, 103, 104, 105, 106, 107, 108] : Wd), ([97, 98, 99, 100, 101, 102, 103, 104, 105, 106, 107, 108, 109] : Wd), ([48] : Wd), ([55] : Wd), ([49, 50] : Wd), ([49, 50, 51, 52, 53, 54, 55, 56, 57] : Wd), ([65] : Wd), ([95] : Wd), ([40] : Wd), ([41] : Wd), ([44] : Wd), ([] : Wd)]), some ((sF eI) c2.1), none, none, none, none, none]) (E4 := [some ((sL (sF eI)) c3.2), some ((sL (sF eX)) [([97] : Wd), ([114, 101, 100] : Wd), ([97, 110, 110] : Wd), ([122] : Wd), ([97, 98, 99, 100, 101, 102, 103, 104, 105, 106, 107, 108] : Wd), ([97, 98, 99, 100, 101, 102, 103, 104, 105, 106, 107, 108, 109] : Wd), ([48] : Wd), ([55] : Wd), ([49, 50] : Wd), ([49, 50, 51, 52, 53, 54, 55, 56, 57] : Wd), ([65] : Wd), ([95] : Wd), ([40] : Wd), ([41] : Wd), ([44] : Wd), ([] : Wd)]), some ((sF eI) c2.1), none, none, none, none, none]) (as := [.r 0, .v ((sF eI) 4)]) (cons_ok rfl (cons_ok rfl rfl)) (s_law_take h_c3) rfl rfl) g_add rfl rfl rfl) rfl) (it_r1 (okO_some h_u4).1) rfl rfl (compL_S (sv := (sF eX)) (e := eI) (f := (fun (k5 : Int) (s7 : (List Int)) => (p_law_pick s7 [([97] : Wd), ([114, 101, 100] : Wd), ([97, 110, 110] : Wd), ([122] : Wd), ([97, 98, 99, 100, 101, 102, 103, 104, 105, 106, 107, 108] : Wd), ([97, 98, 99, 100, 101, 102, 103, 104, 105, 106, 107, 108, 109] : Wd), ([48] : Wd), ([55] : Wd), ([49, 50] : Wd), ([49, 50, 51, 52, 53, 54, 55, 56, 57] : Wd), ([65] : Wd), ([95] : Wd), ([40] : Wd), ([41] : Wd), ([44] : Wd), ([] : Wd)]).bind fun c8 => some (some c8.1, c8.2))) (B := fun (s7 : (List Int)) => [some ((sL (sF eI)) s7), some ((sL (sF eX)) [([97] : Wd), ([114, 101, 100] : Wd), ([97, 110, 110] : Wd), ([122] : Wd), ([97, 98, 99, 100, 101, 102, 103, 104, 105, 106, 107, 108] : Wd), ([97, 98, 99, 100, 101, 102, 103, 104, 105, 106, 107, 108, 109] : Wd), ([48] : Wd), ([55] : Wd), ([49, 50] : Wd), ([49, 50, 51, 52, 53, 54, 55, 56, 57] : Wd), ([65] : Wd), ([95] : Wd), ([40] : Wd), ([41] : Wd), ([44] : Wd), ([] : Wd)]), some ((sF eI) c2.1), none, none, none, none, none]) (fun k5 s7 c s' hz => by obtain ⟨c8, h_c8, hz⟩ := bnd hz; cases hz; exact c1_yes (e1 := [some ((sL (sF eI)) s7), some ((sL (sF eX)) [([97] : Wd), ([114, 101, 100] : Wd), ([97, 110, 110] : Wd), ([122] : Wd), ([97, 98, 99, 100, 101, 102, 103, 104, 105, 106, 107, 108] : Wd), ([97, 98, 99, 100, 101, 102, 103, 104, 105, 106, 107, 108, 109] : Wd), ([48] : Wd), ([55] : Wd), ([49, 50] : Wd), ([49, 50, 51, 52, 53, 54, 55, 56, 57] : Wd), ([65] : Wd), ([95] : Wd), ([40] : Wd), ([41] : Wd), ([44] : Wd), ([] : Wd)]), some ((sF eI) c2.1), none, none, none, none, some ((sF eI) k5)]) (e2 := [some ((sL (sF eI)) s7), some ((sL (sF eX)) [([97] : Wd), ([114, 101, 100] : Wd), ([97, 110, 110] : Wd), ([122] : Wd), ([97, 98, 99, 100, 101, 102, 103, 104, 105, 106, 107, 108] : Wd), ([97, 98, 99, 100, 101, 102, 103, 104, 105, 106, 107, 108, 109] : Wd), ([48] : Wd), ([55] : Wd), ([49, 50] : Wd), ([49, 50, 51, 52, 53, 54, 55, 56, 57] : Wd), ([65] : Wd), ([95] : Wd), ([40] : Wd), ([41] : Wd), ([44] : Wd), ([] : Wd)]), some ((sF eI) c2.1), none, none, none, none, some ((sF eI) k5)]) rfl rfl (fz' (d := eX c8.1) (ow (E1 := [some ((sL (sF eI)) s7), some ((sL (sF eX)) [([97] : Wd), ([114, 101, 100] : Wd), ([97, 110, 110] : Wd), ([122] : Wd), ([97, 98, 99, 100, 101, 102, 103, 104, 105, 106, 107, 108] : Wd), ([97, 98, 99, 100, 101, 102, 103, 104, 105, 106, 107, 108, 109] : Wd), ([48] : Wd), ([55] : Wd), ([49, 50] : Wd), ([49, 50, 51, 52, 53, 54, 55, 56, 57] : Wd), ([65] : Wd), ([95] : Wd), ([40] : Wd), ([41] : Wd), ([44] : Wd), ([] : Wd)]), some ((sF eI) c2.1), none, none, none, none, some ((sF eI) k5)]) (E4 := [some ((sL (sF eI)) c8.2), some ((sL (sF eX)) [([97] : Wd), ([114, 101, 100] : Wd), ([97, 110, 110] : Wd), ([122] : Wd), ([97, 98, 99, 100, 101, 102, 103, 104, 105, 106, 107, 108] : Wd), ([97, 98, 99, 100, 101, 102, 103, 104, 105, 106, 107, 108, 109] : Wd), ([48] : Wd), ([55] : Wd), ([49, 50] : Wd), ([49, 50, 51, 52, 53, 54, 55, 56, 57] : Wd), ([65] : Wd), ([95] : Wd), ([40] : Wd), ([41] : Wd), ([44] : Wd), ([] : Wd)]), some ((sF eI) c2.1), none, none, none, none, some ((sF eI) k5)]) (as := [.r 0, .r 1]) (cons_ok rfl (cons_ok rfl rfl)) (s_law_pick h_c8) rfl rfl) rfl) rfl) h_z9) h_l10 rfl) rfl) (g_join_x (ys := l10) (elemsLT_o (e := eX)) (okO_some h_u11).1) rfl rfl rfl)) ?_
    exact Blk.fin ⟨_, .inl rfl, rfl⟩
  · refine Blk.nx (E1 := [some ((sL (sF eI)) c2.2), some ((sL (sF eX)) [([97] : Wd), ([114, 101, 100] : Wd), ([97, 110, 110] : Wd), ([122] : Wd), ([97, 98, 99, 100, 101, 102, 103, 104, 105, 106, 107, 108] : Wd), ([97, 98, 99, 100, 101, 102, 103, 104, 105, 106, 107, 108, 109] : Wd), ([48] : Wd), ([55] : Wd), ([49, 50] : Wd), ([49, 50, 51, 52, 53, 54, 55, 56, 57] : Wd), ([65] : Wd), ([95] : Wd), ([40] : Wd), ([41] : Wd), ([44] : Wd), ([] : Wd)]), some ((sF eI) c2.1), none, none, none, none, none]) rfl ?_
    refine Blk.assoc ?_
    refine Blk.ite (E1 := [some ((sL (sF eI)) c2.2), some ((sL (sF eX)) [([97] : Wd), ([114, 101, 100] : Wd), ([97, 110, 110] : Wd), ([122] : Wd), ([97, 98, 99, 100, 101, 102, 103, 104, 105, 106, 107, 108] : Wd), ([97, 98, 99, 100, 101, 102, 103, 104, 105, 106, 107, 108, 109] : Wd), ([48] : Wd), ([55] : Wd), ([49, 50] : Wd), ([49, 50, 51, 52, 53, 54, 55, 56, 57] : Wd), ([65] : Wd), ([95] : Wd), ([40] : Wd), ([41] : Wd), ([44] : Wd), ([] : Wd)]), some ((sF eI) c2.1), none, none, none, none, none]) (tb (bnk (a := .r 2) (b := .v ((sF eI) 1)) rfl rfl (g_eq (e := eI) (s := ((sF eI) c2.1)) (t := ((sF eI) 1)) dt_f dt_f (by decide)) rfl rfl rfl)) (fun hb => ?_) (fun hb => ?_)
    · refine Blk.bind fun c12 h_c12 => ?_
      refine Blk.bind fun u13 h_u13 => ?_
      refine Blk.bind fun z20 h_z20 => ?_
      refine Blk.bind fun l21 h_l21 => ?_
      refine Blk.bind fun u22 h_u22 => ?_
      refine Blk.ret (s := ((sF eX) (joinX ([] : Wd) l21))) (E1 := [some ((sL (sF eI)) z20.2), some ((sL (sF eX)) [([97] : Wd), ([114, 101, 100] : Wd), ([97, 110, 110] : Wd), ([122] : Wd), ([97, 98, 99, 100, 101, 102, 103, 104, 105, 106, 107, 108] : Wd), ([97, 98, 99, 100, 101, 102, 103, 104, 105, 106, 107, 108, 109] : Wd), ([48] : Wd), ([55] : Wd), ([49, 50] : Wd), ([49, 50, 51, 52, 53, 54, 55, 56, 57] : Wd), ([65] : Wd), ([95] : Wd), ([40] : Wd), ([41] : Wd), ([44] : Wd), ([] : Wd)]), some ((sF eI) c2.1), none, none, none, none, none]) (ret_ret (me (E1 := [some ((sL (sF eI)) c2.2), some ((sL (sF eX)) [([97] : Wd), ([114, 101, 100] : Wd), ([97, 110, 110] : Wd), ([122] : Wd), ([97, 98, 99, 100, 101, 102, 103, 104, 105, 106, 107, 108] : Wd), ([97, 98, 99, 100, 101, 102, 103, 104, 105, 106, 107, 108, 109] : Wd), ([48] : Wd), ([55] : Wd), ([49, 50] : Wd), ([49, 50, 51, 52, 53, 54, 55, 56, 57] : Wd), ([65] : Wd), ([95] : Wd), ([40] : Wd), ([41] : Wd), ([44] : Wd), ([] : Wd)]), some ((sF eI) c2.1), none, none, none, none, none]) (E2 := [some ((sL (sF eI)) z20.2), some ((sL (sF eX)) [([97] : Wd), ([114, 101, 100] : Wd), ([97, 110, 110] : Wd), ([122] : Wd), ([97, 98, 99, 100, 101, 102, 103, 104, 105, 106, 107, 108] : Wd), ([97, 98, 99, 100, 101, 102, 103, 104, 105, 106, 107, 108, 109] : Wd), ([48] : Wd), ([55] : Wd), ([49, 50] : Wd), ([49, 50, 51, 52, 53, 54, 55, 56, 57] : Wd), ([65] : Wd), ([95] : Wd), ([40] : Wd), ([41] : Wd), ([44] : Wd), ([] : Wd)]), some ((sF eI) c2.1), none, none, none, none, none]) (E4 := [some ((sL (sF eI)) z20.2), some ((sL (sF eX)) [([97] : Wd), ([114, 101, 100] : Wd), ([97, 110, 110] : Wd), ([122] : Wd), ([97, 98, 99, 100, 101, 102, 103, 104, 105, 106, 107, 108] : Wd), ([97, 98, 99, 100, 101, 102, 103, 104, 105, 106, 107, 108, 109] : Wd), ([48] : Wd), ([55] : Wd), ([49, 50] : Wd), ([49, 50, 51, 52, 53, 54, 55, 56, 57] : Wd), ([65] : Wd), ([95] : Wd), ([40] : Wd), ([41] : Wd), ([44] : Wd), ([] : Wd)]), some ((sF eI) c2.1), none, none, none, none, none]) (a := .v ((sF eX) ([] : Wd))) (as := [.v ((sL (sF eX)) l21)]) (cx lx0x) rfl (cons_ok (lc (e := eI) (sv := (sF eX)) (E2 := [some ((sL (sF eI)) c12.2), some ((sL (sF eX)) [([97] : Wd), ([114, 101, 100] : Wd), ([97, 110, 110] : Wd), ([122] : Wd), ([97, 98, 99, 100, 101, 102, 103, 104, 105, 106, 107, 108] : Wd), ([97, 98, 99, 100, 101, 102, 103, 104, 105, 106, 107, 108, 109] : Wd), ([48] : Wd), ([55] : Wd), ([49, 50] : Wd), ([49, 50, 51, 52, 53, 54, 55, 56, 57] : Wd), ([65] : Wd), ([95] : Wd), ([40] : Wd), ([41] : Wd), ([44] : Wd), ([] : Wd)]), some ((sF eI) c2.1), none, none, none, none, none]) (E3 := [some ((sL (sF eI)) z20.2), some ((sL (sF eX)) [([97] : Wd), ([114, 101, 100] : Wd), ([97, 110, 110] : Wd), ([122] : Wd), ([97, 98, 99, 100, 101, 102, 103, 104, 105, 106, 107, 108] : Wd), ([97, 98, 99, 100, 101, 102, 103, 104, 105, 106, 107, 108, 109] : Wd), ([48] : Wd), ([55] : Wd), ([49, 50] : Wd), ([49, 50, 51, 52, 53, 54, 55, 56, 57] : Wd), ([65] : Wd), ([95] : Wd), ([40] : Wd), ([41] : Wd), ([44] : Wd), ([] : Wd)]), some ((sF eI) c2.1), none, none, none, none, none]) (E4 := [some ((sL (sF eI)) z20.2), some ((sL (sF eX)) [([97] : Wd), ([114, 101, 100] : Wd), ([97, 110, 110] : Wd), ([122] : Wd), ([97, 98, 99, 100, 101, 102, 103, 104, 105, 106, 107, 108] : Wd), ([97, 98, 99, 100, 101, 102, 103, 104, 105, 106, 107, 108, 109] : Wd), ([48] : Wd), ([55] : Wd), ([49, 50] : Wd), ([49, 50, 51, 52, 53, 54, 55, 56, 57] : Wd), ([65] : Wd), ([95] : Wd), ([40] : Wd), ([41] : Wd), ([44] : Wd), ([] : Wd)]), some ((sF eI) c2.1), none, none, none, none, none]) (as := [.v ((sF eI) (1 + c12.1))]) (ss := [((sF eI) (1 + c12.1))]) (cons_ok (bn (E1 := [some ((sL (sF eI)) c2.2), some ((sL (sF eX)) [([97] : Wd), ([114, 101, 100] : Wd), ([97, 110, 110] : Wd), ([122] : Wd), ([97, 98, 99, 100, 101, 102, 103, 104, 105, 106, 107, 108] : Wd), ([97, 98, 99, 100, 101, 102, 103, 104, 105, 106, 107, 108, 109] : Wd), ([48] : Wd), ([55] : Wd), ([49, 50] : Wd), ([49, 50, 51, 52, 53, 54, 55, 56, 57] : Wd), ([65] : Wd), ([95] : Wd), ([40] : Wd), ([41] : Wd), ([44] : Wd), ([] : Wd)]), some ((sF eI) c2.1), none, none, none, none, none]) (E2 := [some ((sL (sF eI)) c12.2), some ((sL (sF eX)) [([97] : Wd), ([114, 101, 100] : Wd), ([97, 110, 110] : Wd), ([122] : Wd), ([97, 98, 99, 100, 101, 102, 103, 104, 105, 106, 107, 108] : Wd), ([97, 98, 99, 100, 101, 102, 103, 104, 105, 106, 107, 108, 109] : Wd), ([48] : Wd), ([55] : Wd), ([49, 50] : Wd), ([49, 50, 51, 52, 53, 54, 55, 56, 57] : Wd), ([65] : Wd), ([95] : Wd), ([40] : Wd), ([41] : Wd), ([44] : Wd), ([] : Wd)]), some ((sF eI) c2.1), none, none, none, none, none]) (E4 := [some ((sL (sF eI)) c12.2), some ((sL (sF eX)) [([97] : Wd), ([114, 101, 100] : Wd), ([97, 110, 110] : Wd), ([122] : Wd), ([97, 98, 99, 100, 101, 102, 103, 104, 105, 106, 107, 108] : Wd), ([97, 98, 99, 100, 101, 102, 103, 104, 105, 106, 107, 108, 109] : Wd), ([48] : Wd), ([55] : Wd), ([49, 50] : Wd), ([49, 50, 51, 52, 53, 54, 55, 56, 57] : Wd), ([65] : Wd), ([95] : Wd), ([40] : Wd), ([41] : Wd), ([44] : Wd), ([] : Wd)]), some ((sF eI) c2.1), none, none, none, none, none]) (a := .v ((sF eI) 1)) (b := .v ((sF eI) c12.1)) rfl (ow (E1 := [some ((sL (sF eI)) c2.2), some ((sL (sF eX)) [([97] : Wd), ([114, 101, 100] : Wd), ([97, 110, 110] : Wd), ([122] : Wd), ([97, 98, 99, 100, 101, 102, 103, 104, 105, 106, 107, 108] : Wd), ([97, 98, 99, 100, 101, 102, 103, 104, 105, 106, 107, 108, 109] : Wd), ([48] : Wd), ([55] : Wd), ([49, 50] : Wd), ([49, 50, 51, 52, 53, 54, 55, 56, 57] : Wd), ([65] : Wd), ([95] : Wd), ([40] : Wd), ([41] : Wd), ([44] : Wd), ([] : Wd)]), some ((sF eI) c2.1), none, none, none, none, none]) (E4 := [some ((sL (sF eI)) c12.2), some ((sL (sF eX)) [([97] : Wd), ([114, 101, 100] : Wd), ([97, 110, 110] : Wd), ([122] : Wd), ([97, 98, 99, 100, 101, 102, 103, 104, 105, 106, 107, 108] : Wd), ([97, 98, 99, 100, 101, 102, 103, 104, 105, 106, 107, 108, 109] : Wd), ([48] : Wd), ([55] : Wd), ([49, 50] : Wd), ([49, 50, 51, 52, 53, 54, 55, 56, 57] : Wd), ([65] : Wd), ([95] : Wd), ([40] : Wd), ([41] : Wd), ([44] : Wd), ([] : Wd)]), some ((sF eI) c2.1), none, none, none, none, none]) (as := [.r 0, .v ((sF eI) 11)]) (cons_ok rfl (cons_ok rfl rfl)) (s_law_take h_c12) rfl rfl) g_add rfl rfl rfl) rfl) (it_r1 (okO_some h_u13).1) rfl rfl (compL_S (sv := (sF eX)) (e := eI) (f := (fun (k14 : Int) (s17 : (List Int)) => (okO (okX ([48, 49, 50, 51, 52, 53, 54, 55, 56, 57, 48] : Wd)) ()).bind fun u18 => (p_law_pick s17 (chs ([48, 49, 50, 51, 52, 53, 54, 55, 56, 57, 48] : Wd))).bind fun c19 => some (some c19.1, c19.2))) (B := fun (s17 : (List Int)) => [some ((sL (sF eI)) s17), some ((sL (sF eX)) [([97] : Wd), ([114, 101, 100] : Wd), ([97, 110, 110] : Wd), ([122] : Wd), ([97, 98, 99, 100, 101, 102, 103, 104, 105, 106, 107, 108] : Wd), ([97, 98, 99, 100, 101, 102, 103, 104, 105, 106, 107, 108, 109] : Wd), ([48] : Wd), ([55] : Wd), ([49, 50] : Wd), ([49, 50, 51, 52, 53, 54, 55, 56, 57] : Wd), ([65] : Wd), ([95] : Wd), ([40] : Wd), ([41] : Wd), ([44] : Wd), ([] : Wd)]), some ((sF eI) c2.1), none, none, none, none, none]) (fun k14 s17 c s' hz => by obtain ⟨u18, h_u18, hz⟩ := bnd hz; obtain ⟨c19, h_c19, hz⟩ := bnd hz; cases hz; exact c1_yes (e1 := [some ((sL (sF eI)) s17), some ((sL (sF eX)) [([97] : Wd), ([114, 101, 100] : Wd), ([97, 110, 110] : Wd), ([122] : Wd), ([97, 98, 99, 100, 101, 102, 103, 104, 105, 106, 107, 108] : Wd), ([97, 98, 99, 100, 101, 102, 103, 104, 105, 106, 107, 108, 109] : Wd), ([48] : Wd), ([55] : Wd), ([49, 50] : Wd), ([49, 50, 51, 52, 53, 54, 55, 56, 57] : Wd), ([65] : Wd), ([95] : Wd), ([40] : Wd), ([41] : Wd), ([44] : Wd), ([] : Wd)]), some ((sF eI) c2.1), none, none, none, none, some ((sF eI) k14)]) (e2 := [some ((sL (sF eI)) s17), some ((sL (sF eX)) [([97] : Wd), ([114, 101, 100] : Wd), ([97, 110, 110] : Wd), ([122] : Wd), ([97, 98, 99, 100, 101, 102, 103, 104, 105, 106, 107, 108] : Wd), ([97, 98, 99, 100, 101, 102, 103, 104, 105, 106, 107, 108, 109] : Wd), ([48] : Wd), ([55] : Wd), ([49, 50] : Wd), ([49, 50, 51, 52, 53, 54, 55, 56, 57] : Wd), ([65] : Wd), ([95] : Wd), ([40] : Wd), ([41] : Wd), ([44] : Wd), ([] : Wd)]), some ((sF eI) c2.1), none, none, none, none, some ((sF eI) k14)]) rfl rfl (fz' (d := eX c19.1) (ow (E1 := [some ((sL (sF eI)) s17), some ((sL (sF eX)) [([97] : Wd), ([114, 101, 100] : Wd), ([97, 110, 110] : Wd), ([122] : Wd), ([97, 98, 99, 100, 101, 102, 103, 104, 105, 106, 107, 108] : Wd), ([97, 98, 99, 100, 101, 102, 103, 104, 105, 106, 107, 108, 109] : Wd), ([48] : Wd), ([55] : Wd), ([49, 50] : Wd), ([49, 50, 51, 52, 53, 54, 55, 56, 57] : Wd), ([65] : Wd), ([95] : Wd), ([40] : Wd), ([41] : Wd), ([44] : Wd), ([] : Wd)]), some ((sF eI) c2.1), none, none, none, none, some ((sF eI) k14)]) (E4 := [some ((sL (sF eI)) c19.2), some ((sL (sF eX)) [([97] : Wd), ([114, 101, 100] : Wd), ([97, 110, 110] : Wd), ([122] : Wd), ([97, 98, 99, 100, 101, 102, 103, 104, 105, 106, 107, 108] : Wd), ([97, 98, 99, 100, 101, 102, 103, 104, 105, 106, 107, 108, 109] : Wd), ([48] : Wd), ([55] : Wd), ([49, 50] : Wd), ([49, 50, 51, 52, 53, 54, 55, 56, 57] : Wd), ([65] : Wd), ([95] : Wd), ([40] : Wd), ([41] : Wd), ([44] : Wd), ([] : Wd)]), some ((sF eI) c2.1), none, none, none, none, some ((sF eI) k14)]) (as := [.r 0, .v ((sL (sF eX)) (chs ([48, 49, 50, 51, 52, 53, 54, 55, 56, 57, 48] : Wd)))]) (cons_ok rfl (cons_ok (clk (as := [.v ((sF eX) ([48, 49, 50, 51, 52, 53, 54, 55, 56, 57, 48] : Wd))]) (cons_ok (cx lx23x) rfl) (g_lst_x (okO_some h_u18).1) rfl rfl rfl) rfl)) (s_law_pick h_c19) rfl rfl) rfl) rfl) h_z20) h_l21 rfl) rfl) (g_join_x (ys := l21) (elemsLT_o (e := eX)) (okO_some h_u22).1) rfl rfl rfl)) ?_
      exact Blk.fin ⟨_, .inl rfl, rfl⟩
    · refine Blk.nx (E1 := [some ((sL (sF eI)) c2.2), some ((sL (sF eX)) [([97] : Wd), ([114, 101, 100] : Wd), ([97, 110, 110] : Wd), ([122] : Wd), ([97, 98, 99, 100, 101, 102, 103, 104, 105, 106, 107, 108] : Wd), ([97, 98, 99, 100, 101, 102, 103, 104, 105, 106, 107, 108, 109] : Wd), ([48] : Wd), ([55] : Wd), ([49, 50] : Wd), ([49, 50, 51, 52, 53, 54, 55, 56, 57] : Wd), ([65] : Wd), ([95] : Wd), ([40] : Wd), ([41] : Wd), ([44] : Wd), ([] : Wd)]), some ((sF eI) c2.1), none, none, none, none, none]) rfl ?_
      refine Blk.assoc ?_
      refine Blk.ite (E1 := [some ((sL (sF eI)) c2.2), some ((sL (sF eX)) [([97] : Wd), ([114, 101, 100] : Wd), ([97, 110, 110] : Wd), ([122] : Wd), ([97, 98, 99, 100, 101, 102, 103, 104, 105, 106, 107, 108] : Wd), ([97, 98, 99, 100, 101, 102, 103, 104, 105, 106, 107, 108, 109] : Wd), ([48] : Wd), ([55] : Wd), ([49, 50] : Wd), ([49, 50, 51, 52, 53, 54, 55, 56, 57] : Wd), ([65] : Wd), ([95] : Wd), ([40] : Wd), ([41] : Wd), ([44] : Wd), ([] : Wd)]), some ((sF eI) c2.1), none, none, none, none, none]) (tb (bnk (a := .r 2) (b := .v ((sF eI) 2)) rfl rfl (g_eq (e := eI) (s := ((sF eI) c2.1)) (t := ((sF eI) 2)) dt_f dt_f (by decide)) rfl rfl rfl)) (fun hb => ?_) (fun hb => ?_)
      · refine Blk.bind fun c23 h_c23 => ?_
        refine Blk.bind fun u24 h_u24 => ?_
        refine Blk.bind fun z31 h_z31 => ?_
        refine Blk.bind fun l32 h_l32 => ?_
        refine Blk.bind fun u33 h_u33 => ?_
        refine Blk.ret (s := ((sF eX) (joinX ([] : Wd) l32))) (E1 := [some ((sL (sF eI)) z31.2), some ((sL (sF eX)) [([97] : Wd), ([114, 101, 100] : Wd), ([97, 110, 110] : Wd), ([122] : Wd), ([97, 98, 99, 100, 101, 102, 103, 104, 105, 106, 107, 108] : Wd), ([97, 98, 99, 100, 101, 102, 103, 104, 105, 106, 107, 108, 109] : Wd), ([48] : Wd), ([55] : Wd), ([49, 50] : Wd), ([49, 50, 51, 52, 53, 54, 55, 56, 57] : Wd), ([65] : Wd), ([95] : Wd), ([40] : Wd), ([41] : Wd), ([44] : Wd), ([] : Wd)]), some ((sF eI) c2.1), none, none, none, none, none]) (ret_ret (me (E1 := [some ((sL (sF eI)) c2.2), some ((sL (sF eX)) [([97] : Wd), ([114, 101, 100] : Wd), ([97, 110, 110] : Wd), ([122] : Wd), ([97, 98, 99, 100, 101, 102, 103, 104, 105, 106, 107, 108] : Wd), ([97, 98, 99, 100, 101, 102, 103, 104, 105, 106, 107, 108, 109] : Wd), ([48] : Wd), ([55] : Wd), ([49, 50] : Wd), ([49, 50, 51, 52, 53, 54, 55, 56, 57] : Wd), ([65] : Wd), ([95] : Wd), ([40] : Wd), ([41] : Wd), ([44] : Wd), ([] : Wd)]), some ((sF eI) c2.1), none, none, none, none, none]) (E2 := [some ((sL (sF eI)) z31.2), some ((sL (sF eX)) [([97] : Wd), ([114, 101, 100] : Wd), ([97, 110, 110] : Wd), ([122] : Wd), ([97, 98, 99, 100, 101, 102, 103, 104, 105, 106, 107, 108] : Wd), ([97, 98, 99, 100, 101, 102, 103, 104, 105, 106, 107, 108, 109] : Wd), ([48] : Wd), ([55] : Wd), ([49, 50] : Wd), ([49, 50, 51, 52, 53, 54, 55, 56, 57] : Wd), ([65] : Wd), ([95] : Wd), ([40] : Wd), ([41] : Wd), ([44] : Wd), ([] : Wd)]), some ((sF eI) c2.1), none, none, none, none, none]) (E4 := [some ((sL (sF eI)) z31.2), some ((sL (sF eX)) [([97] : Wd), ([114, 101, 100] : Wd), ([97, 110, 110] : Wd), ([122] : Wd), ([97, 98, 99, 100, 101, 102, 103, 104, 105, 106, 107, 108] : Wd), ([97, 98, 99, 100, 101, 102, 103, 104, 105, 106, 107, 108, 109] : Wd), ([48] : Wd), ([55] : Wd), ([49, 50] : Wd), ([49, 50, 51, 52, 53, 54, 55, 56, 57] : Wd), ([65] : Wd), ([95] : Wd), ([40] : Wd), ([41] : Wd), ([44] : Wd), ([] : Wd)]), some ((sF eI) c2.1), none, none, none, none, none]) (a := .v ((sF eX) ([] : Wd))) (as := [.v ((sL (sF eX)) l32)]) (cx lx0x) rfl (cons_ok (lc (e := eI) (sv := (sF eX)) (E2 := [some ((sL (sF eI)) c23.2), some ((sL (sF eX)) [([97] : Wd), ([114, 101, 100] : Wd), ([97, 110, 110] : Wd), ([122] : Wd), ([97, 98, 99, 100, 101, 102, 103, 104, 105, 106, 107, 108] : Wd), ([97, 98, 99, 100, 101, 102, 103, 104, 105, 106, 107, 108, 109] : Wd), ([48] : Wd), ([55] : Wd), ([49, 50] : Wd), ([49, 50, 51, 52, 53, 54, 55, 56, 57] : Wd), ([65] : Wd), ([95] : Wd), ([40] : Wd), ([41] : Wd), ([44] : Wd), ([] : Wd)]), some ((sF eI) c2.1), none, none, none, none, none]) (E3 := [some ((sL (sF eI)) z31.2), some ((sL (sF eX)) [([97] : Wd), ([114, 101, 100] : Wd), ([97, 110, 110] : Wd), ([122] : Wd), ([97, 98, 99, 100, 101, 102, 103, 104, 105, 106, 107, 108] : Wd), ([97, 98, 99, 100, 101, 102, 103, 104, 105, 106, 107, 108, 109] : Wd), ([48] : Wd), ([55] : Wd), ([49, 50] : Wd), ([49, 50, 51, 52, 53, 54, 55, 56, 57] : Wd), ([65] : Wd), ([95] : Wd), ([40] : Wd), ([41] : Wd), ([44] : Wd), ([] : Wd)]), some ((sF eI) c2.1), none, none, none, none, none]) (E4 := [some ((sL (sF eI)) z31.2), some ((sL (sF eX)) [([97] : Wd), ([114, 101, 100] : Wd), ([97, 110, 110] : Wd), ([122] : Wd), ([97, 98, 99, 100, 101, 102, 103, 104, 105, 106, 107, 108] : Wd), ([97, 98, 99, 100, 101, 102, 103, 104, 105, 106, 107, 108, 109] : Wd), ([48] : Wd), ([55] : Wd), ([49, 50] : Wd), ([49, 50, 51, 52, 53, 54, 55, 56, 57] : Wd), ([65] : Wd), ([95] : Wd), ([40] : Wd), ([41] : Wd), ([44] : Wd), ([] : Wd)]), some ((sF eI) c2.1), none, none, none, none, none]) (as := [.v ((sF eI) (1 + c23.1))]) (ss := [((sF eI) (1 + c23.1))]) (cons_ok (bn (E1 := [some ((sL (sF eI)) c2.2), some ((sL (sF eX)) [([97] : Wd), ([114, 101, 100] : Wd), ([97, 110, 110] : Wd), ([122] : Wd), ([97, 98, 99, 100, 101, 102, 103, 104, 105, 106, 107, 108] : Wd), ([97, 98, 99, 100, 101, 102, 103, 104, 105, 106, 107, 108, 109] : Wd), ([48] : Wd), ([55] : Wd), ([49, 50] : Wd), ([49, 50, 51, 52, 53, 54, 55, 56, 57] : Wd), ([65] : Wd), ([95] : Wd), ([40] : Wd), ([41] : Wd), ([44] : Wd), ([] : Wd)]), some ((sF eI) c2.1), none, none, none, none, none]) (E2 := [some ((sL (sF eI)) c23.2), some ((sL (sF eX)) [([97] : Wd), ([114, 101, 100] : Wd), ([97, 110, 110] : Wd), ([122] : Wd), ([97, 98, 99, 100, 101, 102, 103, 104, 105, 106, 107, 108] : Wd), ([97, 98, 99, 100, 101, 102, 103, 104, 105, 106, 107, 108, 109] : Wd), ([48] : Wd), ([55] : Wd), ([49, 50] : Wd), ([49, 50, 51, 52, 53, 54, 55, 56, 57] : Wd), ([65] : Wd), ([95] : Wd), ([40] : Wd), ([41] : Wd), ([44] : Wd), ([] : Wd)]), some ((sF eI) c2.1), none, none, none, none, none]) (E4 := [some ((sL (sF eI)) c23.2), some ((sL (sF eX)) [([97] : Wd), ([114, 101, 100] : Wd), ([97, 110, 110] : Wd), ([122] : Wd), ([97, 98, 99, 100, 101, 102, 103, 104, 105, 106, 107, 108] : Wd), ([97, 98, 99, 100, 101, 102, 103, 104, 105, 106, 107, 108, 109] : Wd), ([48] : Wd), ([55] : Wd), ([49, 50] : Wd), ([49, 50, 51, 52, 53, 54, 55, 56, 57] : Wd), ([65] : Wd), ([95] : Wd), ([40] : Wd), ([41] : Wd), ([44] : Wd), ([] : Wd)]), some ((sF eI) c2.1), none, none, none, none, none]) (a := .v ((sF eI) 1)) (b := .v ((sF eI) c23.1)) rfl (ow (E1 := [some ((sL (sF eI)) c2.2), some ((sL (sF eX)) [([97] : Wd), ([114, 101, 100] : Wd), ([97, 110, 110] : Wd), ([122] : Wd), ([97, 98, 99, 100, 101, 102, 103, 104, 105, 106, 107, 108] : Wd), ([97, 98, 99, 100, 101, 102, 103, 104, 105, 106, 107, 108, 109] : Wd), ([48] : Wd), ([55] : Wd), ([49, 50] : Wd), ([49, 50, 51, 52, 53, 54, 55, 56, 57] : Wd), ([65] : Wd), ([95] : Wd), ([40] : Wd), ([41] : Wd), ([44] : Wd), ([] : Wd)]), some ((sF eI) c2.1), none, none, none, none, none]) (E4 := [some ((sL (sF eI)) c23.2), some ((sL (sF eX)) [([97] : Wd), ([114, 101, 100] : Wd), ([97, 110, 110] : Wd), ([122] : Wd), ([97, 98, 99, 100, 101, 102, 103, 104, 105, 106, 107, 108] : Wd), ([97, 98, 99, 100, 101, 102, 103, 104, 105, 106, 107, 108, 109] : Wd), ([48] : Wd), ([55] : Wd), ([49, 50] : Wd), ([49, 50, 51, 52, 53, 54, 55, 56, 57] : Wd), ([65] : Wd), ([95] : Wd), ([40] : Wd), ([41] : Wd), ([44] : Wd), ([] : Wd)]), some ((sF eI) c2.1), none, none, none, none, none]) (as := [.r 0, .v ((sF eI) 14)]) (cons_ok rfl (cons_ok rfl rfl)) (s_law_take h_c23) rfl rfl) g_add rfl rfl rfl) rfl) (it_r1 (okO_some h_u24).1) rfl rfl (compL_S (sv := (sF eX)) (e := eI) (f := (fun (k25 : Int) (s28 : (List Int)) => (okO (okX ([97, 98, 109, 122] : Wd)) ()).bind fun u29 => (p_law_pick s28 (chs ([97, 98, 109, 122] : Wd))).bind fun c30 => some (some c30.1, c30.2))) (B := fun (s28 : (List Int)) => [some ((sL (sF eI)) s28), some ((sL (sF eX)) [([97] : Wd), ([114, 101, 100] : Wd), ([97, 110, 110] : Wd), ([122] : Wd), ([97, 98, 99, 100, 101, 102, 103, 104, 105, 106, 107, 108] : Wd), ([97, 98, 99, 100, 101, 102, 103, 104, 105, 106, 107, 108, 109] : Wd), ([48] : Wd), ([55] : Wd), ([49, 50] : Wd), ([49, 50, 51, 52, 53, 54, 55, 56, 57] : Wd), ([65] : Wd), ([95] : Wd), ([40] : Wd), ([41] : Wd), ([44] : Wd), ([] : Wd)]), some ((sF eI) c2.1), none, none, none, none, none]) (fun k25 s28 c s' hz => by obtain ⟨u29, h_u29, hz⟩ := bnd hz; obtain ⟨c30, h_c30, hz⟩ := bnd hz; cases hz; exact c1_yes (e1 := [some ((sL (sF eI)) s28), some ((sL (sF eX)) [([97] : Wd), ([114, 101, 100] : Wd), ([97, 110, 110] : Wd), ([122] : Wd), ([97, 98, 99, 100, 101, 102, 103, 104, 105, 106, 107, 108] : Wd), ([97, 98, 99, 100, 101, 102, 103, 104, 105, 106, 107, 108, 109] : Wd), ([48] : Wd), ([55] : Wd), ([49, 50] : Wd), ([49, 50, 51, 52, 53, 54, 55, 56, 57] : Wd), ([65] : Wd), ([95] : Wd), ([40] : Wd), ([41] : Wd), ([44] : Wd), ([] : Wd)]), some ((sF eI) c2.1), none, none, none, none, some ((sF eI) k25)]) (e2 := [some ((sL (sF eI)) s28), some ((sL (sF eX)) [([97] : Wd), ([114, 101, 100] : Wd), ([97, 110, 110] : Wd), ([122] : Wd), ([97, 98, 99, 100, 101, 102, 103, 104, 105, 106, 107, 108] : Wd), ([97, 98, 99, 100, 101, 102, 103, 104, 105, 106, 107, 108, 109] : Wd), ([48] : Wd), ([55] : Wd), ([49, 50] : Wd), ([49, 50, 51, 52, 53, 54, 55, 56, 57] : Wd), ([65] : Wd), ([95] : Wd), ([40] : Wd), ([41] : Wd), ([44] : Wd), ([] : Wd)]), some ((sF eI) c2.1), none, none, none, none, some ((sF eI) k25)]) rfl rfl (fz' (d := eX c30.1) (ow (E1 := [some ((sL (sF eI)) s28), some ((sL (sF eX)) [([97] : Wd), ([114, 101, 100] : Wd), ([97, 110, 110] : Wd), ([122] : Wd), ([97, 98, 99, 100, 101, 102, 103, 104, 105, 106, 107, 108] : Wd), ([97, 98, 99, 100, 101, 102, 103, 104, 105, 106, 107, 108, 109] : Wd), ([48] : Wd), ([55] : Wd), ([49, 50] : Wd), ([49, 50, 51, 52, 53, 54, 55, 56, 57] : Wd), ([65] : Wd), ([95] : Wd), ([40] : Wd), ([41] : Wd), ([44] : Wd), ([] : Wd)]), some ((sF eI) c2.1), none, none, none, none, some ((sF eI) k25)]) (E4 := [some ((sL (sF eI)) c30.2), some ((sL (sF eX)) [([97] : Wd), ([114, 101, 100] : Wd), ([97, 110, 110] : Wd), ([122] : Wd), ([97, 98, 99, 100, 101, 102, 103, 104, 105, 106, 107, 108] : Wd), ([97, 98, 99, 100, 101, 102, 103, 104, 105, 106, 107, 108, 109] : Wd), ([48] : Wd), ([55] : Wd), ([49, 50] : Wd), ([49, 50, 51, 52, 53, 54, 55, 56, 57] : Wd), ([65] : Wd), ([95] : Wd), ([40] : Wd), ([41] : Wd), ([44] : Wd), ([] : Wd)]), some ((sF eI) c2.1), none, none, none, none, some ((sF eI) k25)]) (as := [.r 0, .v ((sL (sF eX)) (chs ([97, 98, 109, 122] : Wd)))]) (cons_ok rfl (cons_ok (clk (as := [.v ((sF eX) ([97, 98, 109, 122] : Wd))]) (cons_ok (cx lx24x) rfl) (g_lst_x (okO_some h_u29).1) rfl rfl rfl) rfl)) (s_law_pick h_c30) rfl rfl) rfl) rfl) h_z31) h_l32 rfl) rfl) (g_join_x (ys := l32) (elemsLT_o (e := eX)) (okO_some h_u33).1) rfl rfl rfl)) ?_
        exact Blk.fin ⟨_, .inl rfl, rfl⟩
      · refine Blk.nx (E1 := [some ((sL (sF eI)) c2.2), some ((sL (sF eX)) [([97] : Wd), ([114, 101, 100] : Wd), ([97, 110, 110] : Wd), ([122] : Wd), ([97, 98, 99, 100, 101, 102, 103, 104, 105, 106, 107, 108] : Wd), ([97, 98, 99, 100, 101, 102, 103, 104, 105, 106, 107, 108, 109] : Wd), ([48] : Wd), ([55] : Wd), ([49, 50] : Wd), ([49, 50, 51, 52, 53, 54, 55, 56, 57] : Wd), ([65] : Wd), ([95] : Wd), ([40] : Wd), ([41] : Wd), ([44] : Wd), ([] : Wd)]), some ((sF eI) c2.1), none, none, none, none, none]) rfl ?_
        refine Blk.assoc ?_
        refine Blk.bind fun c34 h_c34 => ?_
        refine Blk.bind fun u35 h_u35 => ?_
        refine Blk.bind fun z40 h_z40 => ?_
        refine Blk.bind fun l41 h_l41 => ?_
        refine Blk.nx (E1 := [some ((sL (sF eI)) z40.2), some ((sL (sF eX)) [([97] : Wd), ([114, 101, 100] : Wd), ([97, 110, 110] : Wd), ([122] : Wd), ([97, 98, 99, 100, 101, 102, 103, 104, 105, 106, 107, 108] : Wd), ([97, 98, 99, 100, 101, 102, 103, 104, 105, 106, 107, 108, 109] : Wd), ([48] : Wd), ([55] : Wd), ([49, 50] : Wd), ([49, 50, 51, 52, 53, 54, 55, 56, 57] : Wd), ([65] : Wd), ([95] : Wd), ([40] : Wd), ([41] : Wd), ([44] : Wd), ([] : Wd)]), some ((sF eI) c2.1), some ((sL (sF eX)) l41), none, none, none, none]) (st_set (E1 := [some ((sL (sF eI)) z40.2), some ((sL (sF eX)) [([97] : Wd), ([114, 101, 100] : Wd), ([97, 110, 110] : Wd), ([122] : Wd), ([97, 98, 99, 100, 101, 102, 103, 104, 105, 106, 107, 108] : Wd), ([97, 98, 99, 100, 101, 102, 103, 104, 105, 106, 107, 108, 109] : Wd), ([48] : Wd), ([55] : Wd), ([49, 50] : Wd), ([49, 50, 51, 52, 53, 54, 55, 56, 57] : Wd), ([65] : Wd), ([95] : Wd), ([40] : Wd), ([41] : Wd), ([44] : Wd), ([] : Wd)]), some ((sF eI) c2.1), none, none, none, none, none]) (lc (e := eI) (sv := (sF eX)) (E2 := [some ((sL (sF eI)) c34.2), some ((sL (sF eX)) [([97] : Wd), ([114, 101, 100] : Wd), ([97, 110, 110] : Wd), ([122] : Wd), ([97, 98, 99, 100, 101, 102, 103, 104, 105, 106, 107, 108] : Wd), ([97, 98, 99, 100, 101, 102, 103, 104, 105, 106, 107, 108, 109] : Wd), ([48] : Wd), ([55] : Wd), ([49, 50] : Wd), ([49, 50, 51, 52, 53, 54, 55, 56, 57] : Wd), ([65] : Wd), ([95] : Wd), ([40] : Wd), ([41] : Wd), ([44] : Wd), ([] : Wd)]), some ((sF eI) c2.1), none, none, none, none, none]) (E3 := [some ((sL (sF eI)) z40.2), some ((sL (sF eX)) [([97] : Wd), ([114, 101, 100] : Wd), ([97, 110, 110] : Wd), ([122] : Wd), ([97, 98, 99, 100, 101, 102, 103, 104, 105, 106, 107, 108] : Wd), ([97, 98, 99, 100, 101, 102, 103, 104, 105, 106, 107, 108, 109] : Wd), ([48] : Wd), ([55] : Wd), ([49, 50] : Wd), ([49, 50, 51, 52, 53, 54, 55, 56, 57] : Wd), ([65] : Wd), ([95] : Wd), ([40] : Wd), ([41] : Wd), ([44] : Wd), ([] : Wd)]), some ((sF eI) c2.1), none, none, none, none, none]) (E4 := [some ((sL (sF eI)) z40.2), some ((sL (sF eX)) [([97] : Wd), ([114, 101, 100] : Wd), ([97, 110, 110] : Wd), ([122] : Wd), ([97, 98, 99, 100, 101, 102, 103, 104, 105, 106, 107, 108] : Wd), ([97, 98, 99, 100, 101, 102, 103, 104, 105, 106, 107, 108, 109] : Wd), ([48] : Wd), ([55] : Wd), ([49, 50] : Wd), ([49, 50, 51, 52, 53, 54, 55, 56, 57] : Wd), ([65] : Wd), ([95] : Wd), ([40] : Wd), ([41] : Wd), ([44] : Wd), ([] : Wd)]), some ((sF eI) c2.1), none, none, none, none, none]) (as := [.v ((sF eI) (1 + c34.1))]) (ss := [((sF eI) (1 + c34.1))]) (cons_ok (bn (E1 := [some ((sL (sF eI)) c2.2), some ((sL (sF eX)) [([97] : Wd), ([114, 101, 100] : Wd), ([97, 110, 110] : Wd), ([122] : Wd), ([97, 98, 99, 100, 101, 102, 103, 104, 105, 106, 107, 108] : Wd), ([97, 98, 99, 100, 101, 102, 103, 104, 105, 106, 107, 108, 109] : Wd), ([48] : Wd), ([55] : Wd), ([49, 50] : Wd), ([49, 50, 51, 52, 53, 54, 55, 56, 57] : Wd), ([65] : Wd), ([95] : Wd), ([40] : Wd), ([41] : Wd), ([44] : Wd), ([] : Wd)]), some ((sF eI) c2.1), none, none, none, none, none]) (E2 := [some ((sL (sF eI)) c34.2), some ((sL (sF eX)) [([97] : Wd), ([114, 101, 100] : Wd), ([97, 110, 110] : Wd), ([122] : Wd), ([97, 98, 99, 100, 101, 102, 103, 104, 105, 106, 107, 108] : Wd), ([97, 98, 99, 100, 101, 102, 103, 104, 105, 106, 107, 108, 109] : Wd), ([48] : Wd), ([55] : Wd), ([49, 50] : Wd), ([49, 50, 51, 52, 53, 54, 55, 56, 57] : Wd), ([65] : Wd), ([95] : Wd), ([40] : Wd), ([41] : Wd), ([44] : Wd), ([] : Wd)]), some ((sF eI) c2.1), none, none, none, none, none]) (E4 := [some ((sL (sF eI)) c34.2), some ((sL (sF eX)) [([97] : Wd), ([114, 101, 100] : Wd), ([97, 110, 110] : Wd), ([122] : Wd), ([97, 98, 99, 100, 101, 102, 103, 104, 105, 106, 107, 108] : Wd), ([97, 98, 99, 100, 101, 102, 103, 104, 105, 106, 107, 108, 109] : Wd), ([48] : Wd), ([55] : Wd), ([49, 50] : Wd), ([49, 50, 51, 52, 53, 54, 55, 56, 57] : Wd), ([65] : Wd), ([95] : Wd), ([40] : Wd), ([41] : Wd), ([44] : Wd), ([] : Wd)]), some ((sF eI) c2.1), none, none, none, none, none]) (a := .v ((sF eI) 1)) (b := .v ((sF eI) c34.1)) rfl (ow (E1 := [some ((sL (sF eI)) c2.2), some ((sL (sF eX)) [([97] : Wd), ([114, 101, 100] : Wd), ([97, 110, 110] : Wd), ([122] : Wd), ([97, 98, 99, 100, 101, 102, 103, 104, 105, 106, 107, 108] : Wd), ([97, 98, 99, 100, 101, 102, 103, 104, 105, 106, 107, 108, 109] : Wd), ([48] : Wd), ([55] : Wd), ([49, 50] : Wd), ([49, 50, 51, 52, 53, 54, 55, 56, 57] : Wd), ([65] : Wd), ([95] : Wd), ([40] : Wd), ([41] : Wd), ([44] : Wd), ([] : Wd)]), some ((sF eI) c2.1), none, none, none, none, none]) (E4 := [some ((sL (sF eI)) c34.2), some ((sL (sF eX)) [([97] : Wd), ([114, 101, 100] : Wd), ([97, 110, 110] : Wd), ([122] : Wd), ([97, 98, 99, 100, 101, 102, 103, 104, 105, 106, 107, 108] : Wd), ([97, 98, 99, 100, 101, 102, 103, 104, 105, 106, 107, 108, 109] : Wd), ([48] : Wd), ([55] : Wd), ([49, 50] : Wd), ([49, 50, 51, 52, 53, 54, 55, 56, 57] : Wd), ([65] : Wd), ([95] : Wd), ([40] : Wd), ([41] : Wd), ([44] : Wd), ([] : Wd)]), some ((sF eI) c2.1), none, none, none, none, none]) (as := [.r 0, .v ((sF eI) 4)]) (cons_ok rfl (cons_ok rfl rfl)) (s_law_take h_c34) rfl rfl) g_add rfl rfl rfl) rfl) (it_r1 (okO_some h_u35).1) rfl rfl (compL_S (sv := (sF eX)) (e := eI) (f := (fun (k36 : Int) (s38 : (List Int)) => (p_law_pick s38 (cutL [([97] : Wd), ([114, 101, 100] : Wd), ([97, 110, 110] : Wd), ([122] : Wd), ([97, 98, 99, 100, 101, 102, 103, 104, 105, 106, 107, 108] : Wd), ([97, 98, 99, 100, 101, 102, 103, 104, 105, 106, 107, 108, 109] : Wd), ([48] : Wd), ([55] : Wd), ([49, 50] : Wd), ([49, 50, 51, 52, 53, 54, 55, 56, 57] : Wd), ([65] : Wd), ([95] : Wd), ([40] : Wd), ([41] : Wd), ([44] : Wd), ([] : Wd)] none (some 5))).bind fun c39 => some (some c39.1, c39.2))) (B := fun (s38 : (List Int)) => [some ((sL (sF eI)) s38), some ((sL (sF eX)) [([97] : Wd), ([114, 101, 100] : Wd), ([97, 110, 110] : Wd), ([122] : Wd), ([97, 98, 99, 100, 101, 102, 103, 104, 105, 106, 107, 108] : Wd), ([97, 98, 99, 100, 101, 102, 103, 104, 105, 106, 107, 108, 109] : Wd), ([48] : Wd), ([55] : Wd), ([49, 50] : Wd), ([49, 50, 51, 52, 53, 54, 55, 56, 57] : Wd), ([65] : Wd), ([95] : Wd), ([40] : Wd), ([41] : Wd), ([44] : Wd), ([] : Wd)]), some ((sF eI) c2.1), none, none, none, none, none]) (fun k36 s38 c s' hz => by obtain ⟨c39, h_c39, hz⟩ := bnd hz; cases hz; exact c1_yes (e1 := [some ((sL (sF eI)) s38), some ((sL (sF eX)) [([97] : Wd), ([114, 101, 100] : Wd), ([97, 110, 110] : Wd), ([122] : Wd), ([97, 98, 99, 100, 101, 102, 103, 104, 105, 106, 107, 108] : Wd), ([97, 98, 99, 100, 101, 102, 103, 104, 105, 106, 107, 108, 109] : Wd), ([48] : Wd), ([55] : Wd), ([49, 50] : Wd), ([49, 50, 51, 52, 53, 54, 55, 56, 57] : Wd), ([65] : Wd), ([95] : Wd), ([40] : Wd), ([41] : Wd), ([44] : Wd), ([] : Wd)]), some ((sF eI) c2.1), none, none, none, none, some ((sF eI) k36)]) (e2 := [some ((sL (sF eI)) s38), some ((sL (sF eX)) [([97] : Wd), ([114, 101, 100] : Wd), ([97, 110, 110] : Wd), ([122] : Wd), ([97, 98, 99, 100, 101, 102, 103, 104, 105, 106, 107, 108] : Wd), ([97, 98, 99, 100, 101, 102, 103, 104, 105, 106, 107, 108, 109] : Wd), ([48] : Wd), ([55] : Wd), ([49, 50] : Wd), ([49, 50, 51, 52, 53, 54, 55, 56, 57] : Wd), ([65] : Wd), ([95] : Wd), ([40] : Wd), ([41] : Wd), ([44] : Wd), ([] : Wd)]), some ((sF eI) c2.1), none, none, none, none, some ((sF eI) k36)]) rfl rfl (fz' (d := eX c39.1) (ow (E1 := [some ((sL (sF eI)) s38), some ((sL (sF eX)) [([97] : Wd), ([114, 101, 100] : Wd), ([97, 110, 110] : Wd), ([122] : Wd), ([97, 98, 99, 100, 101, 102, 103, 104, 105, 106, 107, 108] : Wd), ([97, 98, 99, 100, 101, 102, 103, 104, 105, 106, 107, 108, 109] : Wd), ([48] : Wd), ([55] : Wd), ([49, 50] : Wd), ([49, 50, 51, 52, 53, 54, 55, 56, 57] : Wd), ([65] : Wd), ([95] : Wd), ([40] : Wd), ([41] : Wd), ([44] : Wd), ([] : Wd)]), some ((sF eI) c2.1), none, none, none, none, some ((sF eI) k36)]) (E4 := [some ((sL (sF eI)) c39.2), some ((sL (sF eX)) [([97] : Wd), ([114, 101, 100] : Wd), ([97, 110, 110] : Wd), ([122] : Wd), ([97, 98, 99, 100, 101, 102, 103, 104, 105, 106, 107, 108] : Wd), ([97, 98, 99, 100, 101, 102, 103, 104, 105, 106, 107, 108, 109] : Wd), ([48] : Wd), ([55] : Wd), ([49, 50] : Wd), ([49, 50, 51, 52, 53, 54, 55, 56, 57] : Wd), ([65] : Wd), ([95] : Wd), ([40] : Wd), ([41] : Wd), ([44] : Wd), ([] : Wd)]), some ((sF eI) c2.1), none, none, none, none, some ((sF eI) k36)]) (as := [.r 0, .v ((sL (sF eX)) (cutL [([97] : Wd), ([114, 101, 100] : Wd), ([97, 110, 110] : Wd), ([122] : Wd), ([97, 98, 99, 100, 101, 102, 103, 104, 105, 106, 107, 108] : Wd), ([97, 98, 99, 100, 101, 102, 103, 104, 105, 106, 107, 108, 109] : Wd), ([48] : Wd), ([55] : Wd), ([49, 50] : Wd), ([49, 50, 51, 52, 53, 54, 55, 56, 57] : Wd), ([65] : Wd), ([95] : Wd), ([40] : Wd), ([41] : Wd), ([44] : Wd), ([] : Wd)] none (some 5)))]) (cons_ok rfl (cons_ok (sl_ok (E1 := [some ((sL (sF eI)) s38), some ((sL (sF eX)) [([97] : Wd), ([114, 101, 100] : Wd), ([97, 110, 110] : Wd), ([122] : Wd), ([97, 98, 99, 100, 101, 102, 103, 104, 105, 106, 107, 108] : Wd), ([97, 98, 99, 100, 101, 102, 103, 104, 105, 106, 107, 108, 109] : Wd), ([48] : Wd), ([55] : Wd), ([49, 50] : Wd), ([49, 50, 51, 52, 53, 54, 55, 56, 57] : Wd), ([65] : Wd), ([95] : Wd), ([40] : Wd), ([41] : Wd), ([44] : Wd), ([] : Wd)]), some ((sF eI) c2.1), none, none, none, none, some ((sF eI) k36)]) (E2 := [some ((sL (sF eI)) s38), some ((sL (sF eX)) [([97] : Wd), ([114, 101, 100] : Wd), ([97, 110, 110] : Wd), ([122] : Wd), ([97, 98, 99, 100, 101, 102, 103, 104, 105, 106, 107, 108] : Wd), ([97, 98, 99, 100, 101, 102, 103, 104, 105, 106, 107, 108, 109] : Wd), ([48] : Wd), ([55] : Wd), ([49, 50] : Wd), ([49, 50, 51, 52, 53, 54, 55, 56, 57] : Wd), ([65] : Wd), ([95] : Wd), ([40] : Wd), ([41] : Wd), ([44] : Wd), ([] : Wd)]), some ((sF eI) c2.1), none, none, none, none, some ((sF eI) k36)]) (E3 := [some ((sL (sF eI)) s38), some ((sL (sF eX)) [([97] : Wd), ([114, 101, 100] : Wd), ([97, 110, 110] : Wd), ([122] : Wd), ([97, 98, 99, 100, 101, 102, 103, 104, 105, 106, 107, 108] : Wd), ([97, 98, 99, 100, 101, 102, 103, 104, 105, 106, 107, 108, 109] : Wd), ([48] : Wd), ([55] : Wd), ([49, 50] : Wd), ([49, 50, 51, 52, 53, 54, 55, 56, 57] : Wd), ([65] : Wd), ([95] : Wd), ([40] : Wd), ([41] : Wd), ([44] : Wd), ([] : Wd)]), some ((sF eI) c2.1), none, none, none, none, some ((sF eI) k36)]) (E5 := [some ((sL (sF eI)) s38), some ((sL (sF eX)) [([97] : Wd), ([114, 101, 100] : Wd), ([97, 110, 110] : Wd), ([122] : Wd), ([97, 98, 99, 100, 101, 102, 103, 104, 105, 106, 107, 108] : Wd), ([97, 98, 99, 100, 101, 102, 103, 104, 105, 106, 107, 108, 109] : Wd), ([48] : Wd), ([55] : Wd), ([49, 50] : Wd), ([49, 50, 51, 52, 53, 54, 55, 56, 57] : Wd), ([65] : Wd), ([95] : Wd), ([40] : Wd), ([41] : Wd), ([44] : Wd), ([] : Wd)]), some ((sF eI) c2.1), none, none, none, none, some ((sF eI) k36)]) (a := .r 1) (s := ((sL (sF eX)) [([97] : Wd), ([114, 101, 100] : Wd), ([97, 110, 110] : Wd), ([122] : Wd), ([97, 98, 99, 100, 101, 102, 103, 104, 105, 106, 107, 108] : Wd), ([97, 98, 99, 100, 101, 102, 103, 104, 105, 106, 107, 108, 109] : Wd), ([48] : Wd), ([55] : Wd), ([49, 50] : Wd), ([49, 50, 51, 52, 53, 54, 55, 56, 57] : Wd), ([65] : Wd), ([95] : Wd), ([40] : Wd), ([41] : Wd), ([44] : Wd), ([] : Wd)])) rfl pno_ok (pat_ok rfl) (sl_o (e := eX)) rfl rfl) rfl)) (s_law_pick h_c39) rfl rfl) rfl) rfl) h_z40) h_l41 rfl) (show 3 < 8 by decide) rfl) ?_
        refine Blk.assoc ?_
        refine Blk.bind fun c42 h_c42 => ?_
        refine Blk.bind fun w43 h_w43 => ?_
        refine Blk.bind fun u44 h_u44 => ?_
        refine Blk.bind fun w45 h_w45 => ?_
        refine Blk.bind fun w46 h_w46 => ?_
        refine Blk.nx (E1 := [some ((sL (sF eI)) c42.2), some ((sL (sF eX)) [([97] : Wd), ([114, 101, 100] : Wd), ([97, 110, 110] : Wd), ([122] : Wd), ([97, 98, 99, 100, 101, 102, 103, 104, 105, 106, 107, 108] : Wd), ([97, 98, 99, 100, 101, 102, 103, 104, 105, 106, 107, 108, 109] : Wd), ([48] : Wd), ([55] : Wd), ([49, 50] : Wd), ([49, 50, 51, 52, 53, 54, 55, 56, 57] : Wd), ([65] : Wd), ([95] : Wd), ([40] : Wd), ([41] : Wd), ([44] : Wd), ([] : Wd)]), some ((sF eI) c2.1), some ((sL (sF eX)) l41), some ((sF eX) w46), none, none, none]) (st_set (E1 := [some ((sL (sF eI)) c42.2), some ((sL (sF eX)) [([97] : Wd), ([114, 101, 100] : Wd), ([97, 110, 110] : Wd), ([122] : Wd), ([97, 98, 99, 100, 101, 102, 103, 104, 105, 106, 107, 108] : Wd), ([97, 98, 99, 100, 101, 102, 103, 104, 105, 106, 107, 108, 109] : Wd), ([48] : Wd), ([55] : Wd), ([49, 50] : Wd), ([49, 50, 51, 52, 53, 54, 55, 56, 57] : Wd), ([65] : Wd), ([95] : Wd), ([40] : Wd), ([41] : Wd), ([44] : Wd), ([] : Wd)]), some ((sF eI) c2.1), some ((sL (sF eX)) l41), none, none, none, none]) (bn (E1 := [some ((sL (sF eI)) c42.2), some ((sL (sF eX)) [([97] : Wd), ([114, 101, 100] : Wd), ([97, 110, 110] : Wd), ([122] : Wd), ([97, 98, 99, 100, 101, 102, 103, 104, 105, 106, 107, 108] : Wd), ([97, 98, 99, 100, 101, 102, 103, 104, 105, 106, 107, 108, 109] : Wd), ([48] : Wd), ([55] : Wd), ([49, 50] : Wd), ([49, 50, 51, 52, 53, 54, 55, 56, 57] : Wd), ([65] : Wd), ([95] : Wd), ([40] : Wd), ([41] : Wd), ([44] : Wd), ([] : Wd)]), some ((sF eI) c2.1), some ((sL (sF eX)) l41), none, none, none, none]) (E2 := [some ((sL (sF eI)) c42.2), some ((sL (sF eX)) [([97] : Wd), ([114, 101, 100] : Wd), ([97, 110, 110] : Wd), ([122] : Wd), ([97, 98, 99, 100, 101, 102, 103, 104, 105, 106, 107, 108] : Wd), ([97, 98, 99, 100, 101, 102, 103, 104, 105, 106, 107, 108, 109] : Wd), ([48] : Wd), ([55] : Wd), ([49, 50] : Wd), ([49, 50, 51, 52, 53, 54, 55, 56, 57] : Wd), ([65] : Wd), ([95] : Wd), ([40] : Wd), ([41] : Wd), ([44] : Wd), ([] : Wd)]), some ((sF eI) c2.1), some ((sL (sF eX)) l41), none, none, none, none]) (E4 := [some ((sL (sF eI)) c42.2), some ((sL (sF eX)) [([97] : Wd), ([114, 101, 100] : Wd), ([97, 110, 110] : Wd), ([122] : Wd), ([97, 98, 99, 100, 101, 102, 103, 104, 105, 106, 107, 108] : Wd), ([97, 98, 99, 100, 101, 102, 103, 104, 105, 106, 107, 108, 109] : Wd), ([48] : Wd), ([55] : Wd), ([49, 50] : Wd), ([49, 50, 51, 52, 53, 54, 55, 56, 57] : Wd), ([65] : Wd), ([95] : Wd), ([40] : Wd), ([41] : Wd), ([44] : Wd), ([] : Wd)]), some ((sF eI) c2.1), some ((sL (sF eX)) l41), none, none, none, none]) (a := .v ((sF eX) w45)) (b := .v ((sF eX) ([41] : Wd))) (bn (E1 := [some ((sL (sF eI)) c42.2), some ((sL (sF eX)) [([97] : Wd), ([114, 101, 100] : Wd), ([97, 110, 110] : Wd), ([122] : Wd), ([97, 98, 99, 100, 101, 102, 103, 104, 105, 106, 107, 108] : Wd), ([97, 98, 99, 100, 101, 102, 103, 104, 105, 106, 107, 108, 109] : Wd), ([48] : Wd), ([55] : Wd), ([49, 50] : Wd), ([49, 50, 51, 52, 53, 54, 55, 56, 57] : Wd), ([65] : Wd), ([95] : Wd), ([40] : Wd), ([41] : Wd), ([44] : Wd), ([] : Wd)]), some ((sF eI) c2.1), some ((sL (sF eX)) l41), none, none, none, none]) (E2 := [some ((sL (sF eI)) c42.2), some ((sL (sF eX)) [([97] : Wd), ([114, 101, 100] : Wd), ([97, 110, 110] : Wd), ([122] : Wd), ([97, 98, 99, 100, 101, 102, 103, 104, 105, 106, 107, 108] : Wd), ([97, 98, 99, 100, 101, 102, 103, 104, 105, 106, 107, 108, 109] : Wd), ([48] : Wd), ([55] : Wd), ([49, 50] : Wd), ([49, 50, 51, 52, 53, 54, 55, 56, 57] : Wd), ([65] : Wd), ([95] : Wd), ([40] : Wd), ([41] : Wd), ([44] : Wd), ([] : Wd)]), some ((sF eI) c2.1), some ((sL (sF eX)) l41), none, none, none, none]) (E4 := [some ((sL (sF eI)) c42.2), some ((sL (sF eX)) [([97] : Wd), ([114, 101, 100] : Wd), ([97, 110, 110] : Wd), ([122] : Wd), ([97, 98, 99, 100, 101, 102, 103, 104, 105, 106, 107, 108] : Wd), ([97, 98, 99, 100, 101, 102, 103, 104, 105, 106, 107, 108, 109] : Wd), ([48] : Wd), ([55] : Wd), ([49, 50] : Wd), ([49, 50, 51, 52, 53, 54, 55, 56, 57] : Wd), ([65] : Wd), ([95] : Wd), ([40] : Wd), ([41] : Wd), ([44] : Wd), ([] : Wd)]), some ((sF eI) c2.1), some ((sL (sF eX)) l41), none, none, none, none]) (a := .v ((sF eX) w43)) (b := .v ((sF eX) (joinX ([44] : Wd) l41))) (bn (E1 := [some ((sL (sF eI)) c42.2), some ((sL (sF eX)) [([97] : Wd), ([114, 101, 100] : Wd), ([97, 110, 110] : Wd), ([122] : Wd), ([97, 98, 99, 100, 101, 102, 103, 104, 105, 106, 107, 108] : Wd), ([97, 98, 99, 100, 101, 102, 103, 104, 105, 106, 107, 108, 109] : Wd), ([48] : Wd), ([55] : Wd), ([49, 50] : Wd), ([49, 50, 51, 52, 53, 54, 55, 56, 57] : Wd), ([65] : Wd), ([95] : Wd), ([40] : Wd), ([41] : Wd), ([44] : Wd), ([] : Wd)]), some ((sF eI) c2.1), some ((sL (sF eX)) l41), none, none, none, none]) (E2 := [some ((sL (sF eI)) c42.2), some ((sL (sF eX)) [([97] : Wd), ([114, 101, 100] : Wd), ([97, 110, 110] : Wd), ([122] : Wd), ([97, 98, 99, 100, 101, 102, 103, 104, 105, 106, 107, 108] : Wd), ([97, 98, 99, 100, 101, 102, 103, 104, 105, 106, 107, 108, 109] : Wd), ([48] : Wd), ([55] : Wd), ([49, 50] : Wd), ([49, 50, 51, 52, 53, 54, 55, 56, 57] : Wd), ([65] : Wd), ([95] : Wd), ([40] : Wd), ([41] : Wd), ([44] : Wd), ([] : Wd)]), some ((sF eI) c2.1), some ((sL (sF eX)) l41), none, none, none, none]) (E4 := [some ((sL (sF eI)) c42.2), some ((sL (sF eX)) [([97] : Wd), ([114, 101, 100] : Wd), ([97, 110, 110] : Wd), ([122] : Wd), ([97, 98, 99, 100, 101, 102, 103, 104, 105, 106, 107, 108] : Wd), ([97, 98, 99, 100, 101, 102, 103, 104, 105, 106, 107, 108, 109] : Wd), ([48] : Wd), ([55] : Wd), ([49, 50] : Wd), ([49, 50, 51, 52, 53, 54, 55, 56, 57] : Wd), ([65] : Wd), ([95] : Wd), ([40] : Wd), ([41] : Wd), ([44] : Wd), ([] : Wd)]), some ((sF eI) c2.1), some ((sL (sF eX)) l41), none, none, none, none]) (a := .v ((sF eX) c42.1)) (b := .v ((sF eX) ([40] : Wd))) (ow (E1 := [some ((sL (sF eI)) z40.2), some ((sL (sF eX)) [([97] : Wd), ([114, 101, 100] : Wd), ([97, 110, 110] : Wd), ([122] : Wd), ([97, 98, 99, 100, 101, 102, 103, 104, 105, 106, 107, 108] : Wd), ([97, 98, 99, 100, 101, 102, 103, 104, 105, 106, 107, 108, 109] : Wd), ([48] : Wd), ([55] : Wd), ([49, 50] : Wd), ([49, 50, 51, 52, 53, 54, 55, 56, 57] : Wd), ([65] : Wd), ([95] : Wd), ([40] : Wd), ([41] : Wd), ([44] : Wd), ([] : Wd)]), some ((sF eI) c2.1), some ((sL (sF eX)) l41), none, none, none, none]) (E4 := [some ((sL (sF eI)) c42.2), some ((sL (sF eX)) [([97] : Wd), ([114, 101, 100] : Wd), ([97, 110, 110] : Wd), ([122] : Wd), ([97, 98, 99, 100, 101, 102, 103, 104, 105, 106, 107, 108] : Wd), ([97, 98, 99, 100, 101, 102, 103, 104, 105, 106, 107, 108, 109] : Wd), ([48] : Wd), ([55] : Wd), ([49, 50] : Wd), ([49, 50, 51, 52, 53, 54, 55, 56, 57] : Wd), ([65] : Wd), ([95] : Wd), ([40] : Wd), ([41] : Wd), ([44] : Wd), ([] : Wd)]), some ((sF eI) c2.1), some ((sL (sF eX)) l41), none, none, none, none]) (as := [.r 0, .v ((sL (sF eX)) (cutL [([97] : Wd), ([114, 101, 100] : Wd), ([97, 110, 110] : Wd), ([122] : Wd), ([97, 98, 99, 100, 101, 102, 103, 104, 105, 106, 107, 108] : Wd), ([97, 98, 99, 100, 101, 102, 103, 104, 105, 106, 107, 108, 109] : Wd), ([48] : Wd), ([55] : Wd), ([49, 50] : Wd), ([49, 50, 51, 52, 53, 54, 55, 56, 57] : Wd), ([65] : Wd), ([95] : Wd), ([40] : Wd), ([41] : Wd), ([44] : Wd), ([] : Wd)] none (some 5)))]) (cons_ok rfl (cons_ok (sl_ok (E1 := [some ((sL (sF eI)) z40.2), some ((sL (sF eX)) [([97] : Wd), ([114, 101, 100] : Wd), ([97, 110, 110] : Wd), ([122] : Wd), ([97, 98, 99, 100, 101, 102, 103, 104, 105, 106, 107, 108] : Wd), ([97, 98, 99, 100, 101, 102, 103, 104, 105, 106, 107, 108, 109] : Wd), ([48] : Wd), ([55] : Wd), ([49, 50] : Wd), ([49, 50, 51, 52, 53, 54, 55, 56, 57] : Wd), ([65] : Wd), ([95] : Wd), ([40] : Wd), ([41] : Wd), ([44] : Wd), ([] : Wd)]), some ((sF eI) c2.1), some ((sL (sF eX)) l41), none, none, none, none]) (E2 := [some ((sL (sF eI)) z40.2), some ((sL (sF eX)) [([97] : Wd), ([114, 101, 100] : Wd), ([97, 110, 110] : Wd), ([122] : Wd), ([97, 98, 99, 100, 101, 102, 103, 104, 105, 106, 107, 108] : Wd), ([97, 98, 99, 100, 101, 102, 103, 104, 105, 106, 107, 108, 109] : Wd), ([48] : Wd), ([55] : Wd), ([49, 50] : Wd), ([49, 50, 51, 52, 53, 54, 55, 56, 57] : Wd), ([65] : Wd), ([95] : Wd), ([40] : Wd), ([41] : Wd), ([44] : Wd), ([] : Wd)]), some ((sF eI) c2.1), some ((sL (sF eX)) l41), none, none, none, none]) (E3 := [some ((sL (sF eI)) z40.2), some ((sL (sF eX)) [([97] : Wd), ([114, 101, 100] : Wd), ([97, 110, 110] : Wd), ([122] : Wd), ([97, 98, 99, 100, 101, 102, 103, 104, 105, 106, 107, 108] : Wd), ([97, 98, 99, 100, 101, 102, 103, 104, 105, 106, 107, 108, 109] : Wd), ([48] : Wd), ([55] : Wd), ([49, 50] : Wd), ([49, 50, 51, 52, 53, 54, 55, 56, 57] : Wd), ([65] : Wd), ([95] : Wd), ([40] : Wd), ([41] : Wd), ([44] : Wd), ([] : Wd)]), some ((sF eI) c2.1), some ((sL (sF eX)) l41), none, none, none, none]) (E5 := [some ((sL (sF eI)) z40.2), some ((sL (sF eX)) [([97] : Wd), ([114, 101, 100] : Wd), ([97, 110, 110] : Wd), ([122] : Wd), ([97, 98, 99, 100, 101, 102, 103, 104, 105, 106, 107, 108] : Wd), ([97, 98, 99, 100, 101, 102, 103, 104, 105, 106, 107, 108, 109] : Wd), ([48] : Wd), ([55] : Wd), ([49, 50] : Wd), ([49, 50, 51, 52, 53, 54, 55, 56, 57] : Wd), ([65] : Wd), ([95] : Wd), ([40] : Wd), ([41] : Wd), ([44] : Wd), ([] : Wd)]), some ((sF eI) c2.1), some ((sL (sF eX)) l41), none, none, none, none]) (a := .r 1) (s := ((sL (sF eX)) [([97] : Wd), ([114, 101, 100] : Wd), ([97, 110, 110] : Wd), ([122] : Wd), ([97, 98, 99, 100, 101, 102, 103, 104, 105, 106, 107, 108] : Wd), ([97, 98, 99, 100, 101, 102, 103, 104, 105, 106, 107, 108, 109] : Wd), ([48] : Wd), ([55] : Wd), ([49, 50] : Wd), ([49, 50, 51, 52, 53, 54, 55, 56, 57] : Wd), ([65] : Wd), ([95] : Wd), ([40] : Wd), ([41] : Wd), ([44] : Wd), ([] : Wd)])) rfl pno_ok (pat_ok rfl) (sl_o (e := eX)) rfl rfl) rfl)) (s_law_pick h_c42) rfl rfl) (cx lx20x) (g_add_x h_w43) rfl rfl rfl) (me (E1 := [some ((sL (sF eI)) c42.2), some ((sL (sF eX)) [([97] : Wd), ([114, 101, 100] : Wd), ([97, 110, 110] : Wd), ([122] : Wd), ([97, 98, 99, 100, 101, 102, 103, 104, 105, 106, 107, 108] : Wd), ([97, 98, 99, 100, 101, 102, 103, 104, 105, 106, 107, 108, 109] : Wd), ([48] : Wd), ([55] : Wd), ([49, 50] : Wd), ([49, 50, 51, 52, 53, 54, 55, 56, 57] : Wd), ([65] : Wd), ([95] : Wd), ([40] : Wd), ([41] : Wd), ([44] : Wd), ([] : Wd)]), some ((sF eI) c2.1), some ((sL (sF eX)) l41), none, none, none, none]) (E2 := [some ((sL (sF eI)) c42.2), some ((sL (sF eX)) [([97] : Wd), ([114, 101, 100] : Wd), ([97, 110, 110] : Wd), ([122] : Wd), ([97, 98, 99, 100, 101, 102, 103, 104, 105, 106, 107, 108] : Wd), ([97, 98, 99, 100, 101, 102, 103, 104, 105, 106, 107, 108, 109] : Wd), ([48] : Wd), ([55] : Wd), ([49, 50] : Wd), ([49, 50, 51, 52, 53, 54, 55, 56, 57] : Wd), ([65] : Wd), ([95] : Wd), ([40] : Wd), ([41] : Wd), ([44] : Wd), ([] : Wd)]), some ((sF eI) c2.1), some ((sL (sF eX)) l41), none, none, none, none]) (E4 := [some ((sL (sF eI)) c42.2), some ((sL (sF eX)) [([97] : Wd), ([114, 101, 100] : Wd), ([97, 110, 110] : Wd), ([122] : Wd), ([97, 98, 99, 100, 101, 102, 103, 104, 105, 106, 107, 108] : Wd), ([97, 98, 99, 100, 101, 102, 103, 104, 105, 106, 107, 108, 109] : Wd), ([48] : Wd), ([55] : Wd), ([49, 50] : Wd), ([49, 50, 51, 52, 53, 54, 55, 56, 57] : Wd), ([65] : Wd), ([95] : Wd), ([40] : Wd), ([41] : Wd), ([44] : Wd), ([] : Wd)]), some ((sF eI) c2.1), some ((sL (sF eX)) l41), none, none, none, none]) (a := .v ((sF eX) ([44] : Wd))) (as := [.r 3]) (cx lx22x) rfl (cons_ok rfl rfl) (g_join_x (ys := l41) (elemsLT_o (e := eX)) (okO_some h_u44).1) rfl rfl rfl) (g_add_x h_w45) rfl rfl rfl) (cx lx21x) (g_add_x h_w46) rfl rfl rfl) (show 4 < 8 by decide) rfl) ?_
        refine Blk.assoc ?_
        refine Blk.bind fun u47 h_u47 => ?_
        refine Blk.bind fun c48 h_c48 => ?_
        refine Blk.nx (E1 := [some ((sL (sF eI)) c48.2), some ((sL (sF eX)) [([97] : Wd), ([114, 101, 100] : Wd), ([97, 110, 110] : Wd), ([122] : Wd), ([97, 98, 99, 100, 101, 102, 103, 104, 105, 106, 107, 108] : Wd), ([97, 98, 99, 100, 101, 102, 103, 104, 105, 106, 107, 108, 109] : Wd), ([48] : Wd), ([55] : Wd), ([49, 50] : Wd), ([49, 50, 51, 52, 53, 54, 55, 56, 57] : Wd), ([65] : Wd), ([95] : Wd), ([40] : Wd), ([41] : Wd), ([44] : Wd), ([] : Wd)]), some ((sF eI) c2.1), some ((sL (sF eX)) l41), some ((sF eX) w46), some ((sF eI) c48.1), none, none]) (st_set (E1 := [some ((sL (sF eI)) c48.2), some ((sL (sF eX)) [([97] : Wd), ([114, 101, 100] : Wd), ([97, 110, 110] : Wd), ([122] : Wd), ([97, 98, 99, 100, 101, 102, 103, 104, 105, 106, 107, 108] : Wd), ([97, 98, 99, 100, 101, 102, 103, 104, 105, 106, 107, 108, 109] : Wd), ([48] : Wd), ([55] : Wd), ([49, 50] : Wd), ([49, 50, 51, 52, 53, 54, 55, 56, 57] : Wd), ([65] : Wd), ([95] : Wd), ([40] : Wd), ([41] : Wd), ([44] : Wd), ([] : Wd)]), some ((sF eI) c2.1), some ((sL (sF eX)) l41), some ((sF eX) w46), none, none, none]) (ow (E1 := [some ((sL (sF eI)) c42.2), some ((sL (sF eX)) [([97] : Wd), ([114, 101, 100] : Wd), ([97, 110, 110] : Wd), ([122] : Wd), ([97, 98, 99, 100, 101, 102, 103, 104, 105, 106, 107, 108] : Wd), ([97, 98, 99, 100, 101, 102, 103, 104, 105, 106, 107, 108, 109] : Wd), ([48] : Wd), ([55] : Wd), ([49, 50] : Wd), ([49, 50, 51, 52, 53, 54, 55, 56, 57] : Wd), ([65] : Wd), ([95] : Wd), ([40] : Wd), ([41] : Wd), ([44] : Wd), ([] : Wd)]), some ((sF eI) c2.1), some ((sL (sF eX)) l41), some ((sF eX) w46), none, none, none]) (E4 := [some ((sL (sF eI)) c48.2), some ((sL (sF eX)) [([97] : Wd), ([114, 101, 100] : Wd), ([97, 110, 110] : Wd), ([122] : Wd), ([97, 98, 99, 100, 101, 102, 103, 104, 105, 106, 107, 108] : Wd), ([97, 98, 99, 100, 101, 102, 103, 104, 105, 106, 107, 108, 109] : Wd), ([48] : Wd), ([55] : Wd), ([49, 50] : Wd), ([49, 50, 51, 52, 53, 54, 55, 56, 57] : Wd), ([65] : Wd), ([95] : Wd), ([40] : Wd), ([41] : Wd), ([44] : Wd), ([] : Wd)]), some ((sF eI) c2.1), some ((sL (sF eX)) l41), some ((sF eX) w46), none, none, none]) (as := [.r 0, .v ((sF eI) (w46.length : Int))]) (cons_ok rfl (cons_ok (clk (as := [.r 4]) (cons_ok rfl rfl) (g_len_x (okO_some h_u47).1) rfl rfl rfl) rfl)) (s_law_take h_c48) rfl rfl) (show 5 < 8 by decide) rfl) ?_
        refine Blk.assoc ?_
        refine Blk.bind fun c49 h_c49 => ?_
        refine Blk.nx (E1 := [some ((sL (sF eI)) c49.2), some ((sL (sF eX)) [([97] : Wd), ([114, 101, 100] : Wd), ([97, 110, 110] : Wd), ([122] : Wd), ([97, 98, 99, 100, 101, 102, 103, 104, 105, 106, 107, 108] : Wd), ([97, 98, 99, 100, 101, 102, 103, 104, 105, 106, 107, 108, 109] : Wd), ([48] : Wd), ([55] : Wd), ([49, 50] : Wd), ([49, 50, 51, 52, 53, 54, 55, 56, 57] : Wd), ([65] : Wd), ([95] : Wd), ([40] : Wd), ([41] : Wd), ([44] : Wd), ([] : Wd)]), some ((sF eI) c2.1), some ((sL (sF eX)) l41), some ((sF eX) w46), some ((sF eI) c48.1), some ((sF eI) c49.1), none]) (st_set (E1 := [some ((sL (sF eI)) c49.2), some ((sL (sF eX)) [([97] : Wd), ([114, 101, 100] : Wd), ([97, 110, 110] : Wd), ([122] : Wd), ([97, 98, 99, 100, 101, 102, 103, 104, 105, 106, 107, 108] : Wd), ([97, 98, 99, 100, 101, 102, 103, 104, 105, 106, 107, 108, 109] : Wd), ([48] : Wd), ([55] : Wd), ([49, 50] : Wd), ([49, 50, 51, 52, 53, 54, 55, 56, 57] : Wd), ([65] : Wd), ([95] : Wd), ([40] : Wd), ([41] : Wd), ([44] : Wd), ([] : Wd)]), some ((sF eI) c2.1), some ((sL (sF eX)) l41), some ((sF eX) w46), some ((sF eI) c48.1), none, none]) (ow (E1 := [some ((sL (sF eI)) c48.2), some ((sL (sF eX)) [([97] : Wd), ([114, 101, 100] : Wd), ([97, 110, 110] : Wd), ([122] : Wd), ([97, 98, 99, 100, 101, 102, 103, 104, 105, 106, 107, 108] : Wd), ([97, 98, 99, 100, 101, 102, 103, 104, 105, 106, 107, 108, 109] : Wd), ([48] : Wd), ([55] : Wd), ([49, 50] : Wd), ([49, 50, 51, 52, 53, 54, 55, 56, 57] : Wd), ([65] : Wd), ([95] : Wd), ([40] : Wd), ([41] : Wd), ([44] : Wd), ([] : Wd)]), some ((sF eI) c2.1), some ((sL (sF eX)) l41), some ((sF eX) w46), some ((sF eI) c48.1), none, none]) (E4 := [some ((sL (sF eI)) c49.2), some ((sL (sF eX)) [([97] : Wd), ([114, 101, 100] : Wd), ([97, 110, 110] : Wd), ([122] : Wd), ([97, 98, 99, 100, 101, 102, 103, 104, 105, 106, 107, 108] : Wd), ([97, 98, 99, 100, 101, 102, 103, 104, 105, 106, 107, 108, 109] : Wd), ([48] : Wd), ([55] : Wd), ([49, 50] : Wd), ([49, 50, 51, 52, 53, 54, 55, 56, 57] : Wd), ([65] : Wd), ([95] : Wd), ([40] : Wd), ([41] : Wd), ([44] : Wd), ([] : Wd)]), some ((sF eI) c2.1), some ((sL (sF eX)) l41), some ((sF eX) w46), some ((sF eI) c48.1), none, none]) (as := [.r 0, .v ((sF eI) 5)]) (cons_ok rfl (cons_ok rfl rfl)) (s_law_take h_c49) rfl rfl) (show 6 < 8 by decide) rfl) ?_
        refine Blk.assoc ?_
        refine Blk.joinQ (P := (fun (s53 : Wd) (e : Fw.Env) => e = [some ((sL (sF eI)) c49.2), some ((sL (sF eX)) [([97] : Wd), ([114, 101, 100] : Wd), ([97, 110, 110] : Wd), ([122] : Wd), ([97, 98, 99, 100, 101, 102, 103, 104, 105, 106, 107, 108] : Wd), ([97, 98, 99, 100, 101, 102, 103, 104, 105, 106, 107, 108, 109] : Wd), ([48] : Wd), ([55] : Wd), ([49, 50] : Wd), ([49, 50, 51, 52, 53, 54, 55, 56, 57] : Wd), ([65] : Wd), ([95] : Wd), ([40] : Wd), ([41] : Wd), ([44] : Wd), ([] : Wd)]), some ((sF eI) c2.1), some ((sL (sF eX)) l41), some ((sF eX) s53), some ((sF eI) c48.1), some ((sF eI) c49.1), none])) (Blk.ife (E1 := [some ((sL (sF eI)) c49.2), some ((sL (sF eX)) [([97] : Wd), ([114, 101, 100] : Wd), ([97, 110, 110] : Wd), ([122] : Wd), ([97, 98, 99, 100, 101, 102, 103, 104, 105, 106, 107, 108] : Wd), ([97, 98, 99, 100, 101, 102, 103, 104, 105, 106, 107, 108, 109] : Wd), ([48] : Wd), ([55] : Wd), ([49, 50] : Wd), ([49, 50, 51, 52, 53, 54, 55, 56, 57] : Wd), ([65] : Wd), ([95] : Wd), ([40] : Wd), ([41] : Wd), ([44] : Wd), ([] : Wd)]), some ((sF eI) c2.1), some ((sL (sF eX)) l41), some ((sF eX) w46), some ((sF eI) c48.1), some ((sF eI) c49.1), none]) (tb (bnk (a := .r 6) (b := .v ((sF eI) 0)) rfl rfl (g_eq (e := eI) (s := ((sF eI) c49.1)) (t := ((sF eI) 0)) dt_f dt_f (by decide)) rfl rfl rfl)) (fun hb => Blk.last ?_) (fun hb => Blk.last ?_)) ?_
        · refine Blk.bind fun u54 h_u54 => ?_
          refine Blk.bind fun u55 h_u55 => ?_
          refine Blk.bind fun w56 h_w56 => ?_
          refine Blk.nx (E1 := [some ((sL (sF eI)) c49.2), some ((sL (sF eX)) [([97] : Wd), ([114, 101, 100] : Wd), ([97, 110, 110] : Wd), ([122] : Wd), ([97, 98, 99, 100, 101, 102, 103, 104, 105, 106, 107, 108] : Wd), ([97, 98, 99, 100, 101, 102, 103, 104, 105, 106, 107, 108, 109] : Wd), ([48] : Wd), ([55] : Wd), ([49, 50] : Wd), ([49, 50, 51, 52, 53, 54, 55, 56, 57] : Wd), ([65] : Wd), ([95] : Wd), ([40] : Wd), ([41] : Wd), ([44] : Wd), ([] : Wd)]), some ((sF eI) c2.1), some ((sL (sF eX)) l41), some ((sF eX) w56), some ((sF eI) c48.1), some ((sF eI) c49.1), none]) (st_set (E1 := [some ((sL (sF eI)) c49.2), some ((sL (sF eX)) [([97] : Wd), ([114, 101, 100] : Wd), ([97, 110, 110] : Wd), ([122] : Wd), ([97, 98, 99, 100, 101, 102, 103, 104, 105, 106, 107, 108] : Wd), ([97, 98, 99, 100, 101, 102, 103, 104, 105, 106, 107, 108, 109] : Wd), ([48] : Wd), ([55] : Wd), ([49, 50] : Wd), ([49, 50, 51, 52, 53, 54, 55, 56, 57] : Wd), ([65] : Wd), ([95] : Wd), ([40] : Wd), ([41] : Wd), ([44] : Wd), ([] : Wd)]), some ((sF eI) c2.1), some ((sL (sF eX)) l41), some ((sF eX) w46), some ((sF eI) c48.1), some ((sF eI) c49.1), none]) (bnk (a := .v ((sF eX) (cutL w46 none (some c48.1)))) (b := .v ((sF eX) (cutL w46 (some (c48.1 + 1)) none))) (sl_ok (E1 := [some ((sL (sF eI)) c49.2), some ((sL (sF eX)) [([97] : Wd), ([114, 101, 100] : Wd), ([97, 110, 110] : Wd), ([122] : Wd), ([97, 98, 99, 100, 101, 102, 103, 104, 105, 106, 107, 108] : Wd), ([97, 98, 99, 100, 101, 102, 103, 104, 105, 106, 107, 108, 109] : Wd), ([48] : Wd), ([55] : Wd), ([49, 50] : Wd), ([49, 50, 51, 52, 53, 54, 55, 56, 57] : Wd), ([65] : Wd), ([95] : Wd), ([40] : Wd), ([41] : Wd), ([44] : Wd), ([] : Wd)]), some ((sF eI) c2.1), some ((sL (sF eX)) l41), some ((sF eX) w46), some ((sF eI) c48.1), some ((sF eI) c49.1), none]) (E2 := [some ((sL (sF eI)) c49.2), some ((sL (sF eX)) [([97] : Wd), ([114, 101, 100] : Wd), ([97, 110, 110] : Wd), ([122] : Wd), ([97, 98, 99, 100, 101, 102, 103, 104, 105, 106, 107, 108] : Wd), ([97, 98, 99, 100, 101, 102, 103, 104, 105, 106, 107, 108, 109] : Wd), ([48] : Wd), ([55] : Wd), ([49, 50] : Wd), ([49, 50, 51, 52, 53, 54, 55, 56, 57] : Wd), ([65] : Wd), ([95] : Wd), ([40] : Wd), ([41] : Wd), ([44] : Wd), ([] : Wd)]), some ((sF eI) c2.1), some ((sL (sF eX)) l41), some ((sF eX) w46), some ((sF eI) c48.1), some ((sF eI) c49.1), none]) (E3 := [some ((sL (sF eI)) c49.2), some ((sL (sF eX)) [([97] : Wd), ([114, 101, 100] : Wd), ([97, 110, 110] : Wd), ([122] : Wd), ([97, 98, 99, 100, 101, 102, 103, 104, 105, 106, 107, 108] : Wd), ([97, 98, 99, 100, 101, 102, 103, 104, 105, 106, 107, 108, 109] : Wd), ([48] : Wd), ([55] : Wd), ([49, 50] : Wd), ([49, 50, 51, 52, 53, 54, 55, 56, 57] : Wd), ([65] : Wd), ([95] : Wd), ([40] : Wd), ([41] : Wd), ([44] : Wd), ([] : Wd)]), some ((sF eI) c2.1), some ((sL (sF eX)) l41), some ((sF eX) w46), some ((sF eI) c48.1), some ((sF eI) c49.1), none]) (E5 := [some ((sL (sF eI)) c49.2), some ((sL (sF eX)) [([97] : Wd), ([114, 101, 100] : Wd), ([97, 110, 110] : Wd), ([122] : Wd), ([97, 98, 99, 100, 101, 102, 103, 104, 105, 106, 107, 108] : Wd), ([97, 98, 99, 100, 101, 102, 103, 104, 105, 106, 107, 108, 109] : Wd), ([48] : Wd), ([55] : Wd), ([49, 50] : Wd), ([49, 50, 51, 52, 53, 54, 55, 56, 57] : Wd), ([65] : Wd), ([95] : Wd), ([40] : Wd), ([41] : Wd), ([44] : Wd), ([] : Wd)]), some ((sF eI) c2.1), some ((sL (sF eX)) l41), some ((sF eX) w46), some ((sF eI) c48.1), some ((sF eI) c49.1), none]) (a := .r 4) (s := ((sF eX) w46)) rfl pno_ok (pat_ok rfl) (sl_x (okO_some h_u54).1) rfl rfl) (sl_ok (E1 := [some ((sL (sF eI)) c49.2), some ((sL (sF eX)) [([97] : Wd), ([114, 101, 100] : Wd), ([97, 110, 110] : Wd), ([122] : Wd), ([97, 98, 99, 100, 101, 102, 103, 104, 105, 106, 107, 108] : Wd), ([97, 98, 99, 100, 101, 102, 103, 104, 105, 106, 107, 108, 109] : Wd), ([48] : Wd), ([55] : Wd), ([49, 50] : Wd), ([49, 50, 51, 52, 53, 54, 55, 56, 57] : Wd), ([65] : Wd), ([95] : Wd), ([40] : Wd), ([41] : Wd), ([44] : Wd), ([] : Wd)]), some ((sF eI) c2.1), some ((sL (sF eX)) l41), some ((sF eX) w46), some ((sF eI) c48.1), some ((sF eI) c49.1), none]) (E2 := [some ((sL (sF eI)) c49.2), some ((sL (sF eX)) [([97] : Wd), ([114, 101, 100] : Wd), ([97, 110, 110] : Wd), ([122] : Wd), ([97, 98, 99, 100, 101, 102, 103, 104, 105, 106, 107, 108] : Wd), ([97, 98, 99, 100, 101, 102, 103, 104, 105, 106, 107, 108, 109] : Wd), ([48] : Wd), ([55] : Wd), ([49, 50] : Wd), ([49, 50, 51, 52, 53, 54, 55, 56, 57] : Wd), ([65] : Wd), ([95] : Wd), ([40] : Wd), ([41] : Wd), ([44] : Wd), ([] : Wd)]), some ((sF eI) c2.1), some ((sL (sF eX)) l41), some ((sF eX) w46), some ((sF eI) c48.1), some ((sF eI) c49.1), none]) (E3 := [some ((sL (sF eI)) c49.2), some ((sL (sF eX)) [([97] : Wd), ([114, 101, 100] : Wd), ([97, 110, 110] : Wd), ([122] : Wd), ([97, 98, 99, 100, 101, 102, 103, 104, 105, 106, 107, 108] : Wd), ([97, 98, 99, 100, 101, 102, 103, 104, 105, 106, 107, 108, 109] : Wd), ([48] : Wd), ([55] : Wd), ([49, 50] : Wd), ([49, 50, 51, 52, 53, 54, 55, 56, 57] : Wd), ([65] : Wd), ([95] : Wd), ([40] : Wd), ([41] : Wd), ([44] : Wd), ([] : Wd)]), some ((sF eI) c2.1), some ((sL (sF eX)) l41), some ((sF eX) w46), some ((sF eI) c48.1), some ((sF eI) c49.1), none]) (E5 := [some ((sL (sF eI)) c49.2), some ((sL (sF eX)) [([97] : Wd), ([114, 101, 100] : Wd), ([97, 110, 110] : Wd), ([122] : Wd), ([97, 98, 99, 100, 101, 102, 103, 104, 105, 106, 107, 108] : Wd), ([97, 98, 99, 100, 101, 102, 103, 104, 105, 106, 107, 108, 109] : Wd), ([48] : Wd), ([55] : Wd), ([49, 50] : Wd), ([49, 50, 51, 52, 53, 54, 55, 56, 57] : Wd), ([65] : Wd), ([95] : Wd), ([40] : Wd), ([41] : Wd), ([44] : Wd), ([] : Wd)]), some ((sF eI) c2.1), some ((sL (sF eX)) l41), some ((sF eX) w46), some ((sF eI) c48.1), some ((sF eI) c49.1), none]) (a := .r 4) (s := ((sF eX) w46)) rfl (pat_ok (bnk (a := .r 5) (b := .v ((sF eI) 1)) rfl rfl g_add rfl rfl rfl)) pno_ok (sl_x (okO_some h_u55).1) rfl rfl) (g_add_x h_w56) rfl rfl rfl) (show 4 < 8 by decide) rfl) ?_
          exact Blk.fin ⟨_, rfl, rfl⟩
        · refine Blk.nx (E1 := [some ((sL (sF eI)) c49.2), some ((sL (sF eX)) [([97] : Wd), ([114, 101, 100] : Wd), ([97, 110, 110] : Wd), ([122] : Wd), ([97, 98, 99, 100, 101, 102, 103, 104, 105, 106, 107, 108] : Wd), ([97, 98, 99, 100, 101, 102, 103, 104, 105, 106, 107, 108, 109] : Wd), ([48] : Wd), ([55] : Wd), ([49, 50] : Wd), ([49, 50, 51, 52, 53, 54, 55, 56, 57] : Wd), ([65] : Wd), ([95] : Wd), ([40] : Wd), ([41] : Wd), ([44] : Wd), ([] : Wd)]), some ((sF eI) c2.1), some ((sL (sF eX)) l41), some ((sF eX) w46), some ((sF eI) c48.1), some ((sF eI) c49.1), none]) rfl ?_
          exact Blk.fin ⟨_, rfl, rfl⟩
        rintro s53 _ rfl
        refine Blk.assoc ?_
        refine Blk.joinQ (P := (fun (s62 : ((List Int) × Wd)) (e : Fw.Env) => e = [some ((sL (sF eI)) s62.1), some ((sL (sF eX)) [([97] : Wd), ([114, 101, 100] : Wd), ([97, 110, 110] : Wd), ([122] : Wd), ([97, 98, 99, 100, 101, 102, 103, 104, 105, 106, 107, 108] : Wd), ([97, 98, 99, 100, 101, 102, 103, 104, 105, 106, 107, 108, 109] : Wd), ([48] : Wd), ([55] : Wd), ([49, 50] : Wd), ([49, 50, 51, 52, 53, 54, 55, 56, 57] : Wd), ([65] : Wd), ([95] : Wd), ([40] : Wd), ([41] : Wd), ([44] : Wd), ([] : Wd)]), some ((sF eI) c2.1), some ((sL (sF eX)) l41), some ((sF eX) s62.2), some ((sF eI) c48.1), some ((sF eI) c49.1), none])) (Blk.ife (E1 := [some ((sL (sF eI)) c49.2), some ((sL (sF eX)) [([97] : Wd), ([114, 101, 100] : Wd), ([97, 110, 110] : Wd), ([122] : Wd), ([97, 98, 99, 100, 101, 102, 103, 104, 105, 106, 107, 108] : Wd), ([97, 98, 99, 100, 101, 102, 103, 104, 105, 106, 107, 108, 109] : Wd), ([48] : Wd), ([55] : Wd), ([49, 50] : Wd), ([49, 50, 51, 52, 53, 54, 55, 56, 57] : Wd), ([65] : Wd), ([95] : Wd), ([40] : Wd), ([41] : Wd), ([44] : Wd), ([] : Wd)]), some ((sF eI) c2.1), some ((sL (sF eX)) l41), some ((sF eX) s53), some ((sF eI) c48.1), some ((sF eI) c49.1), none]) (tb (bnk (a := .r 6) (b := .v ((sF eI) 1)) rfl rfl (g_eq (e := eI) (s := ((sF eI) c49.1)) (t := ((sF eI) 1)) dt_f dt_f (by decide)) rfl rfl rfl)) (fun hb => Blk.last ?_) (fun hb => Blk.last ?_)) ?_
        · refine Blk.bind fun u63 h_u63 => ?_
          refine Blk.bind fun c64 h_c64 => ?_
          refine Blk.bind fun w65 h_w65 => ?_
          refine Blk.bind fun u66 h_u66 => ?_
          refine Blk.bind fun w67 h_w67 => ?_
          refine Blk.nx (E1 := [some ((sL (sF eI)) c64.2), some ((sL (sF eX)) [([97] : Wd), ([114, 101, 100] : Wd), ([97, 110, 110] : Wd), ([122] : Wd), ([97, 98, 99, 100, 101, 102, 103, 104, 105, 106, 107, 108] : Wd), ([97, 98, 99, 100, 101, 102, 103, 104, 105, 106, 107, 108, 109] : Wd), ([48] : Wd), ([55] : Wd), ([49, 50] : Wd), ([49, 50, 51, 52, 53, 54, 55, 56, 57] : Wd), ([65] : Wd), ([95] : Wd), ([40] : Wd), ([41] : Wd), ([44] : Wd), ([] : Wd)]), some ((sF eI) c2.1), some ((sL (sF eX)) l41), some ((sF eX) w67), some ((sF eI) c48.1), some ((sF eI) c49.1), none]) (st_set (E1 := [some ((sL (sF eI)) c64.2), some ((sL (sF eX)) [([97] : Wd), ([114, 101, 100] : Wd), ([97, 110, 110] : Wd), ([122] : Wd), ([97, 98, 99, 100, 101, 102, 103, 104, 105, 106, 107, 108] : Wd), ([97, 98, 99, 100, 101, 102, 103, 104, 105, 106, 107, 108, 109] : Wd), ([48] : Wd), ([55] : Wd), ([49, 50] : Wd), ([49, 50, 51, 52, 53, 54, 55, 56, 57] : Wd), ([65] : Wd), ([95] : Wd), ([40] : Wd), ([41] : Wd), ([44] : Wd), ([] : Wd)]), some ((sF eI) c2.1), some ((sL (sF eX)) l41), some ((sF eX) s53), some ((sF eI) c48.1), some ((sF eI) c49.1), none]) (bn (E1 := [some ((sL (sF eI)) c64.2), some ((sL (sF eX)) [([97] : Wd), ([114, 101, 100] : Wd), ([97, 110, 110] : Wd), ([122] : Wd), ([97, 98, 99, 100, 101, 102, 103, 104, 105, 106, 107, 108] : Wd), ([97, 98, 99, 100, 101, 102, 103, 104, 105, 106, 107, 108, 109] : Wd), ([48] : Wd), ([55] : Wd), ([49, 50] : Wd), ([49, 50, 51, 52, 53, 54, 55, 56, 57] : Wd), ([65] : Wd), ([95] : Wd), ([40] : Wd), ([41] : Wd), ([44] : Wd), ([] : Wd)]), some ((sF eI) c2.1), some ((sL (sF eX)) l41), some ((sF eX) s53), some ((sF eI) c48.1), some ((sF eI) c49.1), none]) (E2 := [some ((sL (sF eI)) c64.2), some ((sL (sF eX)) [([97] : Wd), ([114, 101, 100] : Wd), ([97, 110, 110] : Wd), ([122] : Wd), ([97, 98, 99, 100, 101, 102, 103, 104, 105, 106, 107, 108] : Wd), ([97, 98, 99, 100, 101, 102, 103, 104, 105, 106, 107, 108, 109] : Wd), ([48] : Wd), ([55] : Wd), ([49, 50] : Wd), ([49, 50, 51, 52, 53, 54, 55, 56, 57] : Wd), ([65] : Wd), ([95] : Wd), ([40] : Wd), ([41] : Wd), ([44] : Wd), ([] : Wd)]), some ((sF eI) c2.1), some ((sL (sF eX)) l41), some ((sF eX) s53), some ((sF eI) c48.1), some ((sF eI) c49.1), none]) (E4 := [some ((sL (sF eI)) c64.2), some ((sL (sF eX)) [([97] : Wd), ([114, 101, 100] : Wd), ([97, 110, 110] : Wd), ([122] : Wd), ([97, 98, 99, 100, 101, 102, 103, 104, 105, 106, 107, 108] : Wd), ([97, 98, 99, 100, 101, 102, 103, 104, 105, 106, 107, 108, 109] : Wd), ([48] : Wd), ([55] : Wd), ([49, 50] : Wd), ([49, 50, 51, 52, 53, 54, 55, 56, 57] : Wd), ([65] : Wd), ([95] : Wd), ([40] : Wd), ([41] : Wd), ([44] : Wd), ([] : Wd)]), some ((sF eI) c2.1), some ((sL (sF eX)) l41), some ((sF eX) s53), some ((sF eI) c48.1), some ((sF eI) c49.1), none]) (a := .v ((sF eX) w65)) (b := .v ((sF eX) (cutL s53 (some c48.1) none))) (bn (E1 := [some ((sL (sF eI)) c49.2), some ((sL (sF eX)) [([97] : Wd), ([114, 101, 100] : Wd), ([97, 110, 110] : Wd), ([122] : Wd), ([97, 98, 99, 100, 101, 102, 103, 104, 105, 106, 107, 108] : Wd), ([97, 98, 99, 100, 101, 102, 103, 104, 105, 106, 107, 108, 109] : Wd), ([48] : Wd), ([55] : Wd), ([49, 50] : Wd), ([49, 50, 51, 52, 53, 54, 55, 56, 57] : Wd), ([65] : Wd), ([95] : Wd), ([40] : Wd), ([41] : Wd), ([44] : Wd), ([] : Wd)]), some ((sF eI) c2.1), some ((sL (sF eX)) l41), some ((sF eX) s53), some ((sF eI) c48.1), some ((sF eI) c49.1), none]) (E2 := [some ((sL (sF eI)) c64.2), some ((sL (sF eX)) [([97] : Wd), ([114, 101, 100] : Wd), ([97, 110, 110] : Wd), ([122] : Wd), ([97, 98, 99, 100, 101, 102, 103, 104, 105, 106, 107, 108] : Wd), ([97, 98, 99, 100, 101, 102, 103, 104, 105, 106, 107, 108, 109] : Wd), ([48] : Wd), ([55] : Wd), ([49, 50] : Wd), ([49, 50, 51, 52, 53, 54, 55, 56, 57] : Wd), ([65] : Wd), ([95] : Wd), ([40] : Wd), ([41] : Wd), ([44] : Wd), ([] : Wd)]), some ((sF eI) c2.1), some ((sL (sF eX)) l41), some ((sF eX) s53), some ((sF eI) c48.1), some ((sF eI) c49.1), none]) (E4 := [some ((sL (sF eI)) c64.2), some ((sL (sF eX)) [([97] : Wd), ([114, 101, 100] : Wd), ([97, 110, 110] : Wd), ([122] : Wd), ([97, 98, 99, 100, 101, 102, 103, 104, 105, 106, 107, 108] : Wd), ([97, 98, 99, 100, 101, 102, 103, 104, 105, 106, 107, 108, 109] : Wd), ([48] : Wd), ([55] : Wd), ([49, 50] : Wd), ([49, 50, 51, 52, 53, 54, 55, 56, 57] : Wd), ([65] : Wd), ([95] : Wd), ([40] : Wd), ([41] : Wd), ([44] : Wd), ([] : Wd)]), some ((sF eI) c2.1), some ((sL (sF eX)) l41), some ((sF eX) s53), some ((sF eI) c48.1), some ((sF eI) c49.1), none]) (a := .v ((sF eX) (cutL s53 none (some c48.1)))) (b := .v ((sF eX) c64.1)) (sl_ok (E1 := [some ((sL (sF eI)) c49.2), some ((sL (sF eX)) [([97] : Wd), ([114, 101, 100] : Wd), ([97, 110, 110] : Wd), ([122] : Wd), ([97, 98, 99, 100, 101, 102, 103, 104, 105, 106, 107, 108] : Wd), ([97, 98, 99, 100, 101, 102, 103, 104, 105, 106, 107, 108, 109] : Wd), ([48] : Wd), ([55] : Wd), ([49, 50] : Wd), ([49, 50, 51, 52, 53, 54, 55, 56, 57] : Wd), ([65] : Wd), ([95] : Wd), ([40] : Wd), ([41] : Wd), ([44] : Wd), ([] : Wd)]), some ((sF eI) c2.1), some ((sL (sF eX)) l41), some ((sF eX) s53), some ((sF eI) c48.1), some ((sF eI) c49.1), none]) (E2 := [some ((sL (sF eI)) c49.2), some ((sL (sF eX)) [([97] : Wd), ([114, 101, 100] : Wd), ([97, 110, 110] : Wd), ([122] : Wd), ([97, 98, 99, 100, 101, 102, 103, 104, 105, 106, 107, 108] : Wd), ([97, 98, 99, 100, 101, 102, 103, 104, 105, 106, 107, 108, 109] : Wd), ([48] : Wd), ([55] : Wd), ([49, 50] : Wd), ([49, 50, 51, 52, 53, 54, 55, 56, 57] : Wd), ([65] : Wd), ([95] : Wd), ([40] : Wd), ([41] : Wd), ([44] : Wd), ([] : Wd)]), some ((sF eI) c2.1), some ((sL (sF eX)) l41), some ((sF eX) s53), some ((sF eI) c48.1), some ((sF eI) c49.1), none]) (E3 := [some ((sL (sF eI)) c49.2), some ((sL (sF eX)) [([97] : Wd), ([114, 101, 100] : Wd), ([97, 110, 110] : Wd), ([122] : Wd), ([97, 98, 99, 100, 101, 102, 103, 104, 105, 106, 107, 108] : Wd), ([97, 98, 99, 100, 101, 102, 103, 104, 105, 106, 107, 108, 109] : Wd), ([48] : Wd), ([55] : Wd), ([49, 50] : Wd), ([49, 50, 51, 52, 53, 54, 55, 56, 57] : Wd), ([65] : Wd), ([95] : Wd), ([40] : Wd), ([41] : Wd), ([44] : Wd), ([] : Wd)]), some ((sF eI) c2.1), some ((sL (sF eX)) l41), some ((sF eX) s53), some ((sF eI) c48.1), some ((sF eI) c49.1), none]) (E5 := [some ((sL (sF eI)) c49.2), some ((sL (sF eX)) [([97] : Wd), ([114, 101, 100] : Wd), ([97, 110, 110] : Wd), ([122] : Wd), ([97, 98, 99, 100, 101, 102, 103, 104, 105, 106, 107, 108] : Wd), ([97, 98, 99, 100, 101, 102, 103, 104, 105, 106, 107, 108, 109] : Wd), ([48] : Wd), ([55] : Wd), ([49, 50] : Wd), ([49, 50, 51, 52, 53, 54, 55, 56, 57] : Wd), ([65] : Wd), ([95] : Wd), ([40] : Wd), ([41] : Wd), ([44] : Wd), ([] : Wd)]), some ((sF eI) c2.1), some ((sL (sF eX)) l41), some ((sF eX) s53), some ((sF eI) c48.1), some ((sF eI) c49.1), none]) (a := .r 4) (s := ((sF eX) s53)) rfl pno_ok (pat_ok rfl) (sl_x (okO_some h_u63).1) rfl rfl) (ow (E1 := [some ((sL (sF eI)) c49.2), some ((sL (sF eX)) [([97] : Wd), ([114, 101, 100] : Wd), ([97, 110, 110] : Wd), ([122] : Wd), ([97, 98, 99, 100, 101, 102, 103, 104, 105, 106, 107, 108] : Wd), ([97, 98, 99, 100, 101, 102, 103, 104, 105, 106, 107, 108, 109] : Wd), ([48] : Wd), ([55] : Wd), ([49, 50] : Wd), ([49, 50, 51, 52, 53, 54, 55, 56, 57] : Wd), ([65] : Wd), ([95] : Wd), ([40] : Wd), ([41] : Wd), ([44] : Wd), ([] : Wd)]), some ((sF eI) c2.1), some ((sL (sF eX)) l41), some ((sF eX) s53), some ((sF eI) c48.1), some ((sF eI) c49.1), none]) (E4 := [some ((sL (sF eI)) c64.2), some ((sL (sF eX)) [([97] : Wd), ([114, 101, 100] : Wd), ([97, 110, 110] : Wd), ([122] : Wd), ([97, 98, 99, 100, 101, 102, 103, 104, 105, 106, 107, 108] : Wd), ([97, 98, 99, 100, 101, 102, 103, 104, 105, 106, 107, 108, 109] : Wd), ([48] : Wd), ([55] : Wd), ([49, 50] : Wd), ([49, 50, 51, 52, 53, 54, 55, 56, 57] : Wd), ([65] : Wd), ([95] : Wd), ([40] : Wd), ([41] : Wd), ([44] : Wd), ([] : Wd)]), some ((sF eI) c2.1), some ((sL (sF eX)) l41), some ((sF eX) s53), some ((sF eI) c48.1), some ((sF eI) c49.1), none]) (as := [.r 0, .r 1]) (cons_ok rfl (cons_ok rfl rfl)) (s_law_pick h_c64) rfl rfl) (g_add_x h_w65) rfl rfl rfl) (sl_ok (E1 := [some ((sL (sF eI)) c64.2), some ((sL (sF eX)) [([97] : Wd), ([114, 101, 100] : Wd), ([97, 110, 110] : Wd), ([122] : Wd), ([97, 98, 99, 100, 101, 102, 103, 104, 105, 106, 107, 108] : Wd), ([97, 98, 99, 100, 101, 102, 103, 104, 105, 106, 107, 108, 109] : Wd), ([48] : Wd), ([55] : Wd), ([49, 50] : Wd), ([49, 50, 51, 52, 53, 54, 55, 56, 57] : Wd), ([65] : Wd), ([95] : Wd), ([40] : Wd), ([41] : Wd), ([44] : Wd), ([] : Wd)]), some ((sF eI) c2.1), some ((sL (sF eX)) l41), some ((sF eX) s53), some ((sF eI) c48.1), some ((sF eI) c49.1), none]) (E2 := [some ((sL (sF eI)) c64.2), some ((sL (sF eX)) [([97] : Wd), ([114, 101, 100] : Wd), ([97, 110, 110] : Wd), ([122] : Wd), ([97, 98, 99, 100, 101, 102, 103, 104, 105, 106, 107, 108] : Wd), ([97, 98, 99, 100, 101, 102, 103, 104, 105, 106, 107, 108, 109] : Wd), ([48] : Wd), ([55] : Wd), ([49, 50] : Wd), ([49, 50, 51, 52, 53, 54, 55, 56, 57] : Wd), ([65] : Wd), ([95] : Wd), ([40] : Wd), ([41] : Wd), ([44] : Wd), ([] : Wd)]), some ((sF eI) c2.1), some ((sL (sF eX)) l41), some ((sF eX) s53), some ((sF eI) c48.1), some ((sF eI) c49.1), none]) (E3 := [some ((sL (sF eI)) c64.2), some ((sL (sF eX)) [([97] : Wd), ([114, 101, 100] : Wd), ([97, 110, 110] : Wd), ([122] : Wd), ([97, 98, 99, 100, 101, 102, 103, 104, 105, 106, 107, 108] : Wd), ([97, 98, 99, 100, 101, 102, 103, 104, 105, 106, 107, 108, 109] : Wd), ([48] : Wd), ([55] : Wd), ([49, 50] : Wd), ([49, 50, 51, 52, 53, 54, 55, 56, 57] : Wd), ([65] : Wd), ([95] : Wd), ([40] : Wd), ([41] : Wd), ([44] : Wd), ([] : Wd)]), some ((sF eI) c2.1), some ((sL (sF eX)) l41), some ((sF eX) s53), some ((sF eI) c48.1), some ((sF eI) c49.1), none]) (E5 := [some ((sL (sF eI)) c64.2), some ((sL (sF eX)) [([97] : Wd), ([114, 101, 100] : Wd), ([97, 110, 110] : Wd), ([122] : Wd), ([97, 98, 99, 100, 101, 102, 103, 104, 105, 106, 107, 108] : Wd), ([97, 98, 99, 100, 101, 102, 103, 104, 105, 106, 107, 108, 109] : Wd), ([48] : Wd), ([55] : Wd), ([49, 50] : Wd), ([49, 50, 51, 52, 53, 54, 55, 56, 57] : Wd), ([65] : Wd), ([95] : Wd), ([40] : Wd), ([41] : Wd), ([44] : Wd), ([] : Wd)]), some ((sF eI) c2.1), some ((sL (sF eX)) l41), some ((sF eX) s53), some ((sF eI) c48.1), some ((sF eI) c49.1), none]) (a := .r 4) (s := ((sF eX) s53)) rfl (pat_ok rfl) pno_ok (sl_x (okO_some h_u66).1) rfl rfl) (g_add_x h_w67) rfl rfl rfl) (show 4 < 8 by decide) rfl) ?_
          exact Blk.fin ⟨_, rfl, rfl⟩
        · refine Blk.nx (E1 := [some ((sL (sF eI)) c49.2), some ((sL (sF eX)) [([97] : Wd), ([114, 101, 100] : Wd), ([97, 110, 110] : Wd), ([122] : Wd), ([97, 98, 99, 100, 101, 102, 103, 104, 105, 106, 107, 108] : Wd), ([97, 98, 99, 100, 101, 102, 103, 104, 105, 106, 107, 108, 109] : Wd), ([48] : Wd), ([55] : Wd), ([49, 50] : Wd), ([49, 50, 51, 52, 53, 54, 55, 56, 57] : Wd), ([65] : Wd), ([95] : Wd), ([40] : Wd), ([41] : Wd), ([44] : Wd), ([] : Wd)]), some ((sF eI) c2.1), some ((sL (sF eX)) l41), some ((sF eX) s53), some ((sF eI) c48.1), some ((sF eI) c49.1), none]) rfl ?_
          exact Blk.fin ⟨_, rfl, rfl⟩
        rintro s62 _ rfl
        refine Blk.ret (s := ((sF eX) s62.2)) (E1 := [some ((sL (sF eI)) s62.1), some ((sL (sF eX)) [([97] : Wd), ([114, 101, 100] : Wd), ([97, 110, 110] : Wd), ([122] : Wd), ([97, 98, 99, 100, 101, 102, 103, 104, 105, 106, 107, 108] : Wd), ([97, 98, 99, 100, 101, 102, 103, 104, 105, 106, 107, 108, 109] : Wd), ([48] : Wd), ([55] : Wd), ([49, 50] : Wd), ([49, 50, 51, 52, 53, 54, 55, 56, 57] : Wd), ([65] : Wd), ([95] : Wd), ([40] : Wd), ([41] : Wd), ([44] : Wd), ([] : Wd)]), some ((sF eI) c2.1), some ((sL (sF eX)) l41), none, some ((sF eI) c48.1), some ((sF eI) c49.1), none]) (ret_ret rfl) ?_
        exact Blk.fin ⟨_, .inl rfl, rfl⟩
noncomputable def p_is_name (word1 : Wd) : Option Bool :=
  (okO (okX word1) ()).bind fun u2 =>
  (if (decide (1 ≤ (word1.length : Int)) && decide ((word1.length : Int) ≤ 12)) then ((capO (List.map (fun char3 => decide (char3 ∈ ([97, 98, 99, 100, 101, 102, 103, 104, 105, 106, 107, 108, 109, 110, 111, 112, 113, 114, 115, 116, 117, 118, 119, 120, 121, 122] : Wd))) word1)).bind fun l4 => some (List.all l4 id)) else some false).bind fun z5 =>
  some z5
theorem s_is_name {word1 : Wd} {c : Bool} (h : p_is_name word1 = some c) : f_is_name [(sF eX) word1] = .ok ((sF eB) c, [some ((sF eX) word1)]) := by
  refine fn_of (P := [true]) (E := [some ((sF eX) word1), none]) (R := fun (c : Bool) => (sF eB) c) (O := fun (c : Bool) => [some ((sF eX) word1)]) (p := p_is_name word1) ?_ h rfl rfl
  unfold p_is_name b_is_name
  refine Blk.last ?_
  refine Blk.bind fun u2 h_u2 => ?_
  refine Blk.bind fun z5 h_z5 => ?_
  refine Blk.ret (s := ((sF eB) z5)) (E1 := [some ((sF eX) word1), none]) (ret_ret (and_s (x := (decide (1 ≤ (word1.length : Int)) && decide ((word1.length : Int) ≤ 12))) (E1 := [some ((sF eX) word1), none]) (E2 := [some ((sF eX) word1), none]) (ch_ok (s := ((sF eI) 1)) (d := eI (word1.length : Int)) (t := ((sF eI) 12)) (a := .v ((sF eI) 12)) rfl (clk (as := [.r 0]) (cons_ok rfl rfl) (g_len_x (okO_some h_u2).1) rfl rfl rfl) rfl rfl rfl rfl rfl) (fun hx => by rcases iteO h_z5 with ⟨hy, hz⟩ | ⟨hy, hz⟩ <;> first | (rw [hx] at hy; cases hy; done) | (obtain ⟨l4, h_l4, hz⟩ := bnd hz; cases hz; exact (clk (as := [.v ((sL (sF eB)) l4)]) (cons_ok (lc (e := eK) (sv := (sF eB)) (E2 := [none, none]) (E3 := [none, none]) (E4 := [some ((sF eX) word1), none]) (as := [.r 0]) (ss := [((sF eX) word1)]) (cons_ok rfl rfl) it_x rfl rfl (compL_M (sv := (sF eB)) (v := fun (char3 : Sg) => decide (char3 ∈ ([97, 98, 99, 100, 101, 102, 103, 104, 105, 106, 107, 108, 109, 110, 111, 112, 113, 114, 115, 116, 117, 118, 119, 120, 121, 122] : Wd))) (fun char3 => c1_yes (e1 := [none, some ((sF eX) [char3])]) (e2 := [none, some ((sF eX) [char3])]) rfl rfl (bnk (a := .r 1) (b := .v ((sF eX) ([97, 98, 99, 100, 101, 102, 103, 104, 105, 106, 107, 108, 109, 110, 111, 112, 113, 114, 115, 116, 117, 118, 119, 120, 121, 122] : Wd))) rfl (cx lx25x) (g_in (s := ((sF eX) [char3])) (t := ((sF eX) ([97, 98, 99, 100, 101, 102, 103, 104, 105, 106, 107, 108, 109, 110, 111, 112, 113, 114, 115, 116, 117, 118, 119, 120, 121, 122] : Wd))) dt_f dt_f in_x) rfl rfl rfl) rfl)) h_l4 rfl) rfl) (g_all (s := ((sL (sF eB)) l4)) elemsL_o) rfl rfl rfl))) (fun hx => by rcases iteO h_z5 with ⟨hy, hz⟩ | ⟨hy, hz⟩ <;> first | (rw [hx] at hy; cases hy; done) | (cases hz; exact ⟨rfl, rfl⟩)))) ?_
  exact Blk.fin ⟨_, .inl rfl, rfl⟩
noncomputable def p_law_name (word1 : Wd) : Option Bool :=
  (okO (okX word1) ()).bind fun u2 =>
  (if (decide (1 ≤ (word1.length : Int)) && decide ((word1.length : Int) ≤ 12)) then ((capO (List.map (fun char3 => [char3]) (List.filter (fun char3 => !decide (char3 ∈ ([97, 98, 99, 100, 101, 102, 103, 104, 105, 106, 107, 108, 109, 110, 111, 112, 113, 114, 115, 116, 117, 118, 119, 120, 121, 122] : Wd))) word1))).bind fun l4 => some (decide (l4 = []))) else some false).bind fun z5 =>
  some z5
theorem s_law_name {word1 : Wd} {c : Bool} (h : p_law_name word1 = some c) : f__law_name [(sF eX) word1] = .ok ((sF eB) c, [some ((sF eX) word1)]) := by
  refine fn_of (P := [true]) (E := [some ((sF eX) word1), none]) (R := fun (c : Bool) => (sF eB) c) (O := fun (c : Bool) => [some ((sF eX) word1)]) (p := p_law_name word1) ?_ h rfl rfl
  unfold p_law_name b__law_name
  refine Blk.last ?_
  refine Blk.bind fun u2 h_u2 => ?_
  refine Blk.bind fun z5 h_z5 => ?_
  refine Blk.ret (s := ((sF eB) z5)) (E1 := [some ((sF eX) word1), none]) (ret_ret (and_s (x := (decide (1 ≤ (word1.length : Int)) && decide ((word1.length : Int) ≤ 12))) (E1 := [some ((sF eX) word1), none]) (E2 := [some ((sF eX) word1), none]) (ch_ok (s := ((sF eI) 1)) (d := eI (word1.length : Int)) (t := ((sF eI) 12)) (a := .v ((sF eI) 12)) rfl (clk (as := [.r 0]) (cons_ok rfl rfl) (g_len_x (okO_some h_u2).1) rfl rfl rfl) rfl rfl rfl rfl rfl) (fun hx => by rcases iteO h_z5 with ⟨hy, hz⟩ | ⟨hy, hz⟩ <;> first | (rw [hx] at hy; cases hy; done) | (obtain ⟨l4, h_l4, hz⟩ := bnd hz; cases hz; exact (bnk (a := .v ((sL (sF eX)) l4)) (b := .v ((sL (sF eX)) [])) (lc (e := eK) (sv := (sF eX)) (E2 := [none, none]) (E3 := [none, none]) (E4 := [some ((sF eX) word1), none]) (as := [.r 0]) (ss := [((sF eX) word1)]) (cons_ok rfl rfl) it_x rfl rfl (compL_T (sv := (sF eX)) (tb := fun (char3 : Sg) => !decide (char3 ∈ ([97, 98, 99, 100, 101, 102, 103, 104, 105, 106, 107, 108, 109, 110, 111, 112, 113, 114, 115, 116, 117, 118, 119, 120, 121, 122] : Wd))) (v := fun (char3 : Sg) => [char3]) (fun char3 => c1_if (e1 := [none, some ((sF eX) [char3])]) (e2 := [none, some ((sF eX) [char3])]) rfl (tb (bnk (a := .r 1) (b := .v ((sF eX) ([97, 98, 99, 100, 101, 102, 103, 104, 105, 106, 107, 108, 109, 110, 111, 112, 113, 114, 115, 116, 117, 118, 119, 120, 121, 122] : Wd))) rfl (cx lx25x) (g_ni (s := ((sF eX) [char3])) (t := ((sF eX) ([97, 98, 99, 100, 101, 102, 103, 104, 105, 106, 107, 108, 109, 110, 111, 112, 113, 114, 115, 116, 117, 118, 119, 120, 121, 122] : Wd))) dt_f dt_f in_x) rfl rfl rfl)) (fun _ => rfl) (fun _ => ⟨[none, some ((sF eX) [char3])], rfl, rfl⟩))) h_l4 rfl) (lst_ok (ss := []) rfl rfl (show 0 ≤ 1000 by decide)) (g_eq (e := (eL eX)) (s := ((sL (sF eX)) l4)) (t := ((sL (sF eX)) [])) dt_o dt_o (by decide)) rfl rfl rfl))) (fun hx => by rcases iteO h_z5 with ⟨hy, hz⟩ | ⟨hy, hz⟩ <;> first | (rw [hx] at hy; cases hy; done) | (cases hz; exact ⟨rfl, rfl⟩)))) ?_
  exact Blk.fin ⟨_, .inl rfl, rfl⟩
noncomputable def p_is_numeral (word1 : Wd) : Option Bool :=
  (okO (okX word1) ()).bind fun u2 =>
  (if (!(decide (1 ≤ (word1.length : Int)) && decide ((word1.length : Int) ≤ 9))) then some true else ((capO (List.map (fun char3 => decide (char3 ∈ ([48, 49, 50, 51, 52, 53, 54, 55, 56, 57] : Wd))) word1)).bind fun l4 => some (!(List.all l4 id)))).bind fun z5 =>
  if z5 then
    some false
  else
  (if decide (word1 = ([48] : Wd)) then some true else ((okO (okX word1) ()).bind fun u6 => (atI word1 0).bind fun c7 => some (!decide ([c7] = ([48] : Wd))))).bind fun z8 =>
  some z8
theorem s_is_numeral {word1 : Wd} {c : Bool} (h : p_is_numeral word1 = some c) : f_is_numeral [(sF eX) word1] = .ok ((sF eB) c, [some ((sF eX) word1)]) := by
  refine fn_of (P := [true]) (E := [some ((sF eX) word1), none]) (R := fun (c : Bool) => (sF eB) c) (O := fun (c : Bool) => [some ((sF eX) word1)]) (p := p_is_numeral word1) ?_ h rfl rfl
  unfold p_is_numeral b_is_numeral
  refine Blk.last ?_
  refine Blk.assoc ?_
  refine Blk.bind fun u2 h_u2 => ?_
  refine Blk.bind fun z5 h_z5 => ?_
  refine Blk.ite (E1 := [some ((sF eX) word1), none]) (tor_s (x := (!(decide (1 ≤ (word1.length : Int)) && decide ((word1.length : Int) ≤ 9)))) (E1 := [some ((sF eX) word1), none]) (E2 := [some ((sF eX) word1), none]) (tnot (tb (ch_ok (s := ((sF eI) 1)) (d := eI (word1.length : Int)) (t := ((sF eI) 9)) (a := .v ((sF eI) 9)) rfl (clk (as := [.r 0]) (cons_ok rfl rfl) (g_len_x (okO_some h_u2).1) rfl rfl rfl) rfl rfl rfl rfl rfl))) (fun hx => by rcases iteO h_z5 with ⟨hy, hz⟩ | ⟨hy, hz⟩ <;> first | (rw [hx] at hy; cases hy; done) | (obtain ⟨l4, h_l4, hz⟩ := bnd hz; cases hz; exact (tnot (tof (x := (List.all l4 id)) (a := .v ((sF eB) (List.all l4 id))) (clk (as := [.v ((sL (sF eB)) l4)]) (cons_ok (lc (e := eK) (sv := (sF eB)) (E2 := [none, none]) (E3 := [none, none]) (E4 := [some ((sF eX) word1), none]) (as := [.r 0]) (ss := [((sF eX) word1)]) (cons_ok rfl rfl) it_x rfl rfl (compL_M (sv := (sF eB)) (v := fun (char3 : Sg) => decide (char3 ∈ ([48, 49, 50, 51, 52, 53, 54, 55, 56, 57] : Wd))) (fun char3 => c1_yes (e1 := [none, some ((sF eX) [char3])]) (e2 := [none, some ((sF eX) [char3])]) rfl rfl (bnk (a := .r 1) (b := .v ((sF eX) ([48, 49, 50, 51, 52, 53, 54, 55, 56, 57] : Wd))) rfl (cx lx26x) (g_in (s := ((sF eX) [char3])) (t := ((sF eX) ([48, 49, 50, 51, 52, 53, 54, 55, 56, 57] : Wd))) dt_f dt_f in_x) rfl rfl rfl) rfl)) h_l4 rfl) rfl) (g_all (s := ((sL (sF eB)) l4)) elemsL_o) rfl rfl rfl) rfl)))) (fun hx => by rcases iteO h_z5 with ⟨hy, hz⟩ | ⟨hy, hz⟩ <;> first | (rw [hx] at hy; cases hy; done) | (cases hz; exact ⟨rfl, rfl⟩))) (fun hb => ?_) (fun hb => ?_)
  · refine Blk.ret (s := ((sF eB) false)) (E1 := [some ((sF eX) word1), none]) (ret_ret rfl) ?_
    exact Blk.fin ⟨_, .inl rfl, rfl⟩
  · refine Blk.nx (E1 := [some ((sF eX) word1), none]) rfl ?_
    refine Blk.bind fun z8 h_z8 => ?_
    refine Blk.ret (s := ((sF eB) z8)) (E1 := [some ((sF eX) word1), none]) (ret_ret (or_s (x := decide (word1 = ([48] : Wd))) (E1 := [some ((sF eX) word1), none]) (E2 := [some ((sF eX) word1), none]) (bnk (a := .r 0) (b := .v ((sF eX) ([48] : Wd))) rfl (cx lx14x) (g_eq (e := eX) (s := ((sF eX) word1)) (t := ((sF eX) ([48] : Wd))) dt_f dt_f (by decide)) rfl rfl rfl) (fun hx => by rcases iteO h_z8 with ⟨hy, hz⟩ | ⟨hy, hz⟩ <;> first | (rw [hx] at hy; cases hy; done) | (obtain ⟨u6, h_u6, hz⟩ := bnd hz; obtain ⟨c7, h_c7, hz⟩ := bnd hz; cases hz; exact (bnk (a := .v ((sF eX) [c7])) (b := .v ((sF eX) ([48] : Wd))) (bnk (a := .r 0) (b := .v ((sF eI) 0)) rfl rfl (g_ix_x (okO_some h_u6).1 h_c7) rfl rfl rfl) (cx lx14x) (g_ne (e := eX) (s := ((sF eX) [c7])) (t := ((sF eX) ([48] : Wd))) dt_f dt_f (by decide)) rfl rfl rfl))) (fun hx => by rcases iteO h_z8 with ⟨hy, hz⟩ | ⟨hy, hz⟩ <;> first | (rw [hx] at hy; cases hy; done) | (cases hz; exact ⟨rfl, rfl⟩)))) ?_
    exact Blk.fin ⟨_, .inl rfl, rfl⟩
noncomputable def p_law_numeral (word1 : Wd) : Option Bool :=
  (okO (okX word1) ()).bind fun u2 =>
  (if (!(decide (1 ≤ (word1.length : Int)) && decide ((word1.length : Int) ≤ 9))) then some true else ((capO (List.map (fun char3 => [char3]) (List.filter (fun char3 => !decide (char3 ∈ ([48, 49, 50, 51, 52, 53, 54, 55, 56, 57] : Wd))) word1))).bind fun l4 => some (!decide (l4 = [])))).bind fun z5 =>
  if z5 then
    some false
  else
  (if decide (word1 = ([48] : Wd)) then some true else ((okO (okX word1) ()).bind fun u6 => (atI word1 0).bind fun c7 => some (!decide ([c7] = ([48] : Wd))))).bind fun z8 =>
  some z8
theorem s_law_numeral {word1 : Wd} {c : Bool} (h : p_law_numeral word1 = some c) : f__law_numeral [(sF eX) word1] = .ok ((sF eB) c, [some ((sF eX) word1)]) := by
  refine fn_of (P := [true]) (E := [some ((sF eX) word1), none]) (R := fun (c : Bool) => (sF eB) c) (O := fun (c : Bool) => [some ((sF eX) word1)]) (p := p_law_numeral word1) ?_ h rfl rfl
  unfold p_law_numeral b__law_numeral
  refine Blk.last ?_
  refine Blk.assoc ?_
  refine Blk.bind fun u2 h_u2 => ?_
  refine Blk.bind fun z5 h_z5 => ?_
  refine Blk.ite (E1 := [some ((sF eX) word1), none]) (tor_s (x := (!(decide (1 ≤ (word1.length : Int)) && decide ((word1.length : Int) ≤ 9)))) (E1 := [some ((sF eX) word1), none]) (E2 := [some ((sF eX) word1), none]) (tnot (tb (ch_ok (s := ((sF eI) 1)) (d := eI (word1.length : Int)) (t := ((sF eI) 9)) (a := .v ((sF eI) 9)) rfl (clk (as := [.r 0]) (cons_ok rfl rfl) (g_len_x (okO_some h_u2).1) rfl rfl rfl) rfl rfl rfl rfl rfl))) (fun hx => by rcases iteO h_z5 with ⟨hy, hz⟩ | ⟨hy, hz⟩ <;> first | (rw [hx] at hy; cases hy; done) | (obtain ⟨l4, h_l4, hz⟩ := bnd hz; cases hz; exact (tb (bnk (a := .v ((sL (sF eX)) l4)) (b := .v ((sL (sF eX)) [])) (lc (e := eK) (sv := (sF eX)) (E2 := [none, none]) (E3 := [none, none]) (E4 := [some ((sF eX) word1), none]) (as := [.r 0]) (ss := [((sF eX) word1)]) (cons_ok rfl rfl) it_x rfl rfl (compL_T (sv := (sF eX)) (tb := fun (char3 : Sg) => !decide (char3 ∈ ([48, 49, 50, 51, 52, 53, 54, 55, 56, 57] : Wd))) (v := fun (char3 : Sg) => [char3]) (fun char3 => c1_if (e1 := [none, some ((sF eX) [char3])]) (e2 := [none, some ((sF eX) [char3])]) rfl (tb (bnk (a := .r 1) (b := .v ((sF eX) ([48, 49, 50, 51, 52, 53, 54, 55, 56, 57] : Wd))) rfl (cx lx26x) (g_ni (s := ((sF eX) [char3])) (t := ((sF eX) ([48, 49, 50, 51, 52, 53, 54, 55, 56, 57] : Wd))) dt_f dt_f in_x) rfl rfl rfl)) (fun _ => rfl) (fun _ => ⟨[none, some ((sF eX) [char3])], rfl, rfl⟩))) h_l4 rfl) (lst_ok (ss := []) rfl rfl (show 0 ≤ 1000 by decide)) (g_ne (e := (eL eX)) (s := ((sL (sF eX)) l4)) (t := ((sL (sF eX)) [])) dt_o dt_o (by decide)) rfl rfl rfl)))) (fun hx => by rcases iteO h_z5 with ⟨hy, hz⟩ | ⟨hy, hz⟩ <;> first | (rw [hx] at hy; cases hy; done) | (cases hz; exact ⟨rfl, rfl⟩))) (fun hb => ?_) (fun hb => ?_)
  · refine Blk.ret (s := ((sF eB) false)) (E1 := [some ((sF eX) word1), none]) (ret_ret rfl) ?_
    exact Blk.fin ⟨_, .inl rfl, rfl⟩
  · refine Blk.nx (E1 := [some ((sF eX) word1), none]) rfl ?_
    refine Blk.bind fun z8 h_z8 => ?_
    refine Blk.ret (s := ((sF eB) z8)) (E1 := [some ((sF eX) word1), none]) (ret_ret (or_s (x := decide (word1 = ([48] : Wd))) (E1 := [some ((sF eX) word1), none]) (E2 := [some ((sF eX) word1), none]) (bnk (a := .r 0) (b := .v ((sF eX) ([48] : Wd))) rfl (cx lx14x) (g_eq (e := eX) (s := ((sF eX) word1)) (t := ((sF eX) ([48] : Wd))) dt_f dt_f (by decide)) rfl rfl rfl) (fun hx => by rcases iteO h_z8 with ⟨hy, hz⟩ | ⟨hy, hz⟩ <;> first | (rw [hx] at hy; cases hy; done) | (obtain ⟨u6, h_u6, hz⟩ := bnd hz; obtain ⟨c7, h_c7, hz⟩ := bnd hz; cases hz; exact (bnk (a := .v ((sF eX) [c7])) (b := .v ((sF eX) ([48] : Wd))) (bnk (a := .r 0) (b := .v ((sF eI) 0)) rfl rfl (g_ix_x (okO_some h_u6).1 h_c7) rfl rfl rfl) (cx lx14x) (g_ne (e := eX) (s := ((sF eX) [c7])) (t := ((sF eX) ([48] : Wd))) dt_f dt_f (by decide)) rfl rfl rfl))) (fun hx => by rcases iteO h_z8 with ⟨hy, hz⟩ | ⟨hy, hz⟩ <;> first | (rw [hx] at hy; cases hy; done) | (cases hz; exact ⟨rfl, rfl⟩)))) ?_
    exact Blk.fin ⟨_, .inl rfl, rfl⟩
noncomputable def p_atom_of (word1 : Wd) : Option (Option (Wd × (List Wd))) :=
  (okO (okX word1) ()).bind fun u2 =>
  (if decide ((parX 40 word1).2.1 = ([] : Wd)) then some true else ((if decide ((parX 40 word1).2.2 = ([] : Wd)) then some true else ((okO (okX ((parX 40 word1).2.2)) ()).bind fun u3 => (atI ((parX 40 word1).2.2) (-1)).bind fun c4 => some (!decide ([c4] = ([41] : Wd))))).bind fun z5 => some z5)).bind fun z6 =>
  if z6 then
    some none
  else
  (okO (okX ((parX 40 word1).2.2)) ()).bind fun u7 =>
  (okO (okX (cutL ((parX 40 word1).2.2) none (some (-1)))) ()).bind fun u8 =>
  (p_is_name ((parX 40 word1).1)).bind fun c9 =>
  (if (!c9) then some true else ((cmpO (fun (one10 : Wd) => (p_is_name one10).bind fun c12 => some (some c12)) (spl1 44 (cutL ((parX 40 word1).2.2) none (some (-1))))).bind fun l13 => (capO l13).bind fun l14 => some (!(List.all l14 id)))).bind fun z15 =>
  if z15 then
    some none
  else
  some (some ((parX 40 word1).1, (spl1 44 (cutL ((parX 40 word1).2.2) none (some (-1))))))
theorem s_atom_of {word1 : Wd} {c : (Option (Wd × (List Wd)))} (h : p_atom_of word1 = some c) : f_atom_of [(sF eX) word1] = .ok ((sF (eO (e2 eX (eT eX)))) c, [some ((sF eX) word1)]) := by
  refine fn_of (P := [true]) (E := [some ((sF eX) word1), none, none, none, none, none]) (R := fun (c : (Option (Wd × (List Wd)))) => (sF (eO (e2 eX (eT eX)))) c) (O := fun (c : (Option (Wd × (List Wd)))) => [some ((sF eX) word1)]) (p := p_atom_of word1) ?_ h rfl rfl
  unfold p_atom_of b_atom_of
  refine Blk.last ?_
  refine Blk.assoc ?_
  refine Blk.bind fun u2 h_u2 => ?_
  refine Blk.nx (E1 := [some ((sF eX) word1), some ((sF eX) ((parX 40 word1).1)), some ((sF eX) ((parX 40 word1).2.1)), some ((sF eX) ((parX 40 word1).2.2)), none, none]) (st_unp (d := (e3 eX eX eX) (parX 40 word1)) (me (E1 := [some ((sF eX) word1), none, none, none, none, none]) (E2 := [some ((sF eX) word1), none, none, none, none, none]) (E4 := [some ((sF eX) word1), none, none, none, none, none]) (a := .r 0) (as := [.v ((sF eX) ([40] : Wd))]) rfl rfl (cons_ok (cx lx20x) rfl) (g_part_x (c := 40) (okO_some h_u2).1) rfl rfl rfl) rfl) ?_
  refine Blk.assoc ?_
  refine Blk.bind fun z6 h_z6 => ?_
  refine Blk.ite (E1 := [some ((sF eX) word1), some ((sF eX) ((parX 40 word1).1)), some ((sF eX) ((parX 40 word1).2.1)), some ((sF eX) ((parX 40 word1).2.2)), none, none]) (tor_s (x := decide ((parX 40 word1).2.1 = ([] : Wd))) (E1 := [some ((sF eX) word1), some ((sF eX) ((parX 40 word1).1)), some ((sF eX) ((parX 40 word1).2.1)), some ((sF eX) ((parX 40 word1).2.2)), none, none]) (E2 := [some ((sF eX) word1), some ((sF eX) ((parX 40 word1).1)), some ((sF eX) ((parX 40 word1).2.1)), some ((sF eX) ((parX 40 word1).2.2)), none, none]) (tb (bnk (a := .r 2) (b := .v ((sF eX) ([] : Wd))) rfl (cx lx0x) (g_eq (e := eX) (s := ((sF eX) ((parX 40 word1).2.1))) (t := ((sF eX) ([] : Wd))) dt_f dt_f (by decide)) rfl rfl rfl)) (fun hx => by rcases iteO h_z6 with ⟨hy, hz⟩ | ⟨hy, hz⟩ <;> first | (rw [hx] at hy; cases hy; done) | (obtain ⟨z5, h_z5, hz⟩ := bnd hz; cases hz; exact (tor_s (x := decide ((parX 40 word1).2.2 = ([] : Wd))) (E1 := [some ((sF eX) word1), some ((sF eX) ((parX 40 word1).1)), some ((sF eX) ((parX 40 word1).2.1)), some ((sF eX) ((parX 40 word1).2.2)), none, none]) (E2 := [some ((sF eX) word1), some ((sF eX) ((parX 40 word1).1)), some ((sF eX) ((parX 40 word1).2.1)), some ((sF eX) ((parX 40 word1).2.2)), none, none]) (tb (bnk (a := .r 3) (b := .v ((sF eX) ([] : Wd))) rfl (cx lx0x) (g_eq (e := eX) (s := ((sF eX) ((parX 40 word1).2.2))) (t := ((sF eX) ([] : Wd))) dt_f dt_f (by decide)) rfl rfl rfl)) (fun hx => by rcases iteO h_z5 with ⟨hy, hz⟩ | ⟨hy, hz⟩ <;> first | (rw [hx] at hy; cases hy; done) | (obtain ⟨u3, h_u3, hz⟩ := bnd hz; obtain ⟨c4, h_c4, hz⟩ := bnd hz; cases hz; exact (tb (bnk (a := .v ((sF eX) [c4])) (b := .v ((sF eX) ([41] : Wd))) (bnk (a := .r 3) (b := .v ((sF eI) (-1))) rfl (unk (a := .v ((sF eI) 1)) rfl g_neg rfl rfl rfl) (g_ix_x (okO_some h_u3).1 h_c4) rfl rfl rfl) (cx lx21x) (g_ne (e := eX) (s := ((sF eX) [c4])) (t := ((sF eX) ([41] : Wd))) dt_f dt_f (by decide)) rfl rfl rfl)))) (fun hx => by rcases iteO h_z5 with ⟨hy, hz⟩ | ⟨hy, hz⟩ <;> first | (rw [hx] at hy; cases hy; done) | (cases hz; exact ⟨rfl, rfl⟩))))) (fun hx => by rcases iteO h_z6 with ⟨hy, hz⟩ | ⟨hy, hz⟩ <;> first | (rw [hx] at hy; cases hy; done) | (cases hz; exact ⟨rfl, rfl⟩))) (fun hb => ?_) (fun hb => ?_)
  · refine Blk.ret (s := ((sF eU) ())) (E1 := [some ((sF eX) word1), some ((sF eX) ((parX 40 word1).1)), some ((sF eX) ((parX 40 word1).2.1)), some ((sF eX) ((parX 40 word1).2.2)), none, none]) (ret_ret rfl) ?_
    exact Blk.fin ⟨_, .inl rfl, rfl⟩
  · refine Blk.nx (E1 := [some ((sF eX) word1), some ((sF eX) ((parX 40 word1).1)), some ((sF eX) ((parX 40 word1).2.1)), some ((sF eX) ((parX 40 word1).2.2)), none, none]) rfl ?_
    refine Blk.assoc ?_
    refine Blk.bind fun u7 h_u7 => ?_
    refine Blk.bind fun u8 h_u8 => ?_
    refine Blk.nx (E1 := [some ((sF eX) word1), some ((sF eX) ((parX 40 word1).1)), some ((sF eX) ((parX 40 word1).2.1)), some ((sF eX) ((parX 40 word1).2.2)), some ((sL (sF eX)) (spl1 44 (cutL ((parX 40 word1).2.2) none (some (-1))))), none]) (st_set (E1 := [some ((sF eX) word1), some ((sF eX) ((parX 40 word1).1)), some ((sF eX) ((parX 40 word1).2.1)), some ((sF eX) ((parX 40 word1).2.2)), none, none]) (me (E1 := [some ((sF eX) word1), some ((sF eX) ((parX 40 word1).1)), some ((sF eX) ((parX 40 word1).2.1)), some ((sF eX) ((parX 40 word1).2.2)), none, none]) (E2 := [some ((sF eX) word1), some ((sF eX) ((parX 40 word1).1)), some ((sF eX) ((parX 40 word1).2.1)), some ((sF eX) ((parX 40 word1).2.2)), none, none]) (E4 := [some ((sF eX) word1), some ((sF eX) ((parX 40 word1).1)), some ((sF eX) ((parX 40 word1).2.1)), some ((sF eX) ((parX 40 word1).2.2)), none, none]) (a := .v ((sF eX) (cutL ((parX 40 word1).2.2) none (some (-1))))) (as := [.v ((sF eX) ([44] : Wd))]) (sl_ok (E1 := [some ((sF eX) word1), some ((sF eX) ((parX 40 word1).1)), some ((sF eX) ((parX 40 word1).2.1)), some ((sF eX) ((parX 40 word1).2.2)), none, none]) (E2 := [some ((sF eX) word1), some ((sF eX) ((parX 40 word1).1)), some ((sF eX) ((parX 40 word1).2.1)), some ((sF eX) ((parX 40 word1).2.2)), none, none]) (E3 := [some ((sF eX) word1), some ((sF eX) ((parX 40 word1).1)), some ((sF eX) ((parX 40 word1).2.1)), some ((sF eX) ((parX 40 word1).2.2)), none, none]) (E5 := [some ((sF eX) word1), some ((sF eX) ((parX 40 word1).1)), some ((sF eX) ((parX 40 word1).2.1)), some ((sF eX) ((parX 40 word1).2.2)), none, none]) (a := .r 3) (s := ((sF eX) ((parX 40 word1).2.2))) rfl pno_ok (pat_ok (unk (a := .v ((sF eI) 1)) rfl g_neg rfl rfl rfl)) (sl_x (okO_some h_u7).1) rfl rfl) rfl (cons_ok (cx lx22x) rfl) (g_split_x (c := 44) (okO_some h_u8).1 (by decide)) rfl rfl rfl) (show 4 < 6 by decide) rfl) ?_
    refine Blk.assoc ?_
    refine Blk.bind fun c9 h_c9 => ?_
    refine Blk.bind fun z15 h_z15 => ?_
    refine Blk.ite (E1 := [some ((sF eX) word1), some ((sF eX) ((parX 40 word1).1)), some ((sF eX) ((parX 40 word1).2.1)), some ((sF eX) ((parX 40 word1).2.2)), some ((sL (sF eX)) (spl1 44 (cutL ((parX 40 word1).2.2) none (some (-1))))), none]) (tor_s (x := (!c9)) (E1 := [some ((sF eX) word1), some ((sF eX) ((parX 40 word1).1)), some ((sF eX) ((parX 40 word1).2.1)), some ((sF eX) ((parX 40 word1).2.2)), some ((sL (sF eX)) (spl1 44 (cutL ((parX 40 word1).2.2) none (some (-1))))), none]) (E2 := [some ((sF eX) word1), some ((sF eX) ((parX 40 word1).1)), some ((sF eX) ((parX 40 word1).2.1)), some ((sF eX) ((parX 40 word1).2.2)), some ((sL (sF eX)) (spl1 44 (cutL ((parX 40 word1).2.2) none (some (-1))))), none]) (tnot (tof (x := c9) (a := .v ((sF eB) c9)) (owk (as := [.r 1]) (cons_ok rfl rfl) (s_is_name h_c9) rfl rfl) rfl)) (fun hx => by rcases iteO h_z15 with ⟨hy, hz⟩ | ⟨hy, hz⟩ <;> first | (rw [hx] at hy; cases hy; done) | (obtain ⟨l13, h_l13, hz⟩ := bnd hz; obtain ⟨l14, h_l14, hz⟩ := bnd hz; cases hz; exact (tnot (tof (x := (List.all l14 id)) (a := .v ((sF eB) (List.all l14 id))) (clk (as := [.v ((sL (sF eB)) l14)]) (cons_ok (lc (e := eX) (sv := (sF eB)) (E2 := [some ((sF eX) word1), some ((sF eX) ((parX 40 word1).1)), some ((sF eX) ((parX 40 word1).2.1)), some ((sF eX) ((parX 40 word1).2.2)), none, none]) (E3 := [some ((sF eX) word1), some ((sF eX) ((parX 40 word1).1)), some ((sF eX) ((parX 40 word1).2.1)), some ((sF eX) ((parX 40 word1).2.2)), none, none]) (E4 := [some ((sF eX) word1), some ((sF eX) ((parX 40 word1).1)), some ((sF eX) ((parX 40 word1).2.1)), some ((sF eX) ((parX 40 word1).2.2)), some ((sL (sF eX)) (spl1 44 (cutL ((parX 40 word1).2.2) none (some (-1))))), none]) (as := [.r 4]) (ss := [((sL (sF eX)) (spl1 44 (cutL ((parX 40 word1).2.2) none (some (-1)))))]) (cons_ok rfl rfl) (it_o (e := eX)) rfl rfl (compL_O (sv := (sF eB)) (e := eX) (f := (fun (one10 : Wd) => (p_is_name one10).bind fun c12 => some (some c12))) (fun one10 c hz => by obtain ⟨c12, h_c12, hz⟩ := bnd hz; cases hz; exact c1_yes (e1 := [some ((sF eX) word1), some ((sF eX) ((parX 40 word1).1)), some ((sF eX) ((parX 40 word1).2.1)), some ((sF eX) ((parX 40 word1).2.2)), none, some ((sF eX) one10)]) (e2 := [some ((sF eX) word1), some ((sF eX) ((parX 40 word1).1)), some ((sF eX) ((parX 40 word1).2.1)), some ((sF eX) ((parX 40 word1).2.2)), none, some ((sF eX) one10)]) rfl rfl (fz' (d := eB c12) (owk (as := [.r 5]) (cons_ok rfl rfl) (s_is_name h_c12) rfl rfl) rfl) rfl) h_l13) h_l14 rfl) rfl) (g_all (s := ((sL (sF eB)) l14)) elemsL_o) rfl rfl rfl) rfl)))) (fun hx => by rcases iteO h_z15 with ⟨hy, hz⟩ | ⟨hy, hz⟩ <;> first | (rw [hx] at hy; cases hy; done) | (cases hz; exact ⟨rfl, rfl⟩))) (fun hb => ?_) (fun hb => ?_)
    · refine Blk.ret (s := ((sF eU) ())) (E1 := [some ((sF eX) word1), some ((sF eX) ((parX 40 word1).1)), some ((sF eX) ((parX 40 word1).2.1)), some ((sF eX) ((parX 40 word1).2.2)), some ((sL (sF eX)) (spl1 44 (cutL ((parX 40 word1).2.2) none (some (-1))))), none]) (ret_ret rfl) ?_
      exact Blk.fin ⟨_, .inl rfl, rfl⟩
    · refine Blk.nx (E1 := [some ((sF eX) word1), some ((sF eX) ((parX 40 word1).1)), some ((sF eX) ((parX 40 word1).2.1)), some ((sF eX) ((parX 40 word1).2.2)), some ((sL (sF eX)) (spl1 44 (cutL ((parX 40 word1).2.2) none (some (-1))))), none]) rfl ?_
      refine Blk.ret (s := ((sF (e2 eX (eT eX))) ((parX 40 word1).1, (spl1 44 (cutL ((parX 40 word1).2.2) none (some (-1))))))) (E1 := [some ((sF eX) word1), some ((sF eX) ((parX 40 word1).1)), some ((sF eX) ((parX 40 word1).2.1)), some ((sF eX) ((parX 40 word1).2.2)), some ((sL (sF eX)) (spl1 44 (cutL ((parX 40 word1).2.2) none (some (-1))))), none]) (ret_ret (tup_ok (ss := [((sF eX) ((parX 40 word1).1)), ((sF (eT eX)) (spl1 44 (cutL ((parX 40 word1).2.2) none (some (-1)))))]) (d := (e2 eX (eT eX)) ((parX 40 word1).1, (spl1 44 (cutL ((parX 40 word1).2.2) none (some (-1)))))) (cons_ok rfl (cons_ok (clk (as := [.r 4]) (cons_ok rfl rfl) (g_tup_o (e := eX)) rfl rfl rfl) rfl)) rfl rfl (show 2 ≤ 1000 by decide))) ?_
      exact Blk.fin ⟨_, .inl rfl, rfl⟩
noncomputable def pl_law_parted_1 (sign2 : Wd) (char19 : Sg) (found18 : (List Wd)) : Option (List Wd) :=
  if decide ([char19] = sign2) then
    (capO (found18 ++ [([] : Wd)])).bind fun l20 =>
    some l20
  else
  (atI found18 ((found18.length : Int) - 1)).bind fun t21 =>
  (capO (t21 ++ [char19])).bind fun w22 =>
  (setO found18 ((found18.length : Int) - 1) w22).bind fun l23 =>
  some l23
noncomputable def p_law_parted (text1 : Wd) (sign2 : Wd) : Option (List Wd) :=
  (forO (fun (x24 : Sg) (s8 : (List Wd)) => pl_law_parted_1 sign2 x24 s8) text1 [([] : Wd)]).bind fun s25 =>
  some s25
theorem s_law_parted {text1 : Wd} {sign2 : Wd} {c : (List Wd)} (h : p_law_parted text1 sign2 = some c) : f__law_parted [(sF eX) text1, (sF eX) sign2] = .ok ((sL (sF eX)) c, [some ((sF eX) text1), some ((sF eX) sign2)]) := by
  refine fn_of (P := [true, true]) (E := [some ((sF eX) text1), some ((sF eX) sign2), none, none]) (R := fun (c : (List Wd)) => (sL (sF eX)) c) (O := fun (c : (List Wd)) => [some ((sF eX) text1), some ((sF eX) sign2)]) (p := p_law_parted text1 sign2) ?_ h rfl rfl
  unfold p_law_parted b__law_parted
  refine Blk.last ?_
  refine Blk.assoc ?_
  refine Blk.nx (E1 := [some ((sF eX) text1), some ((sF eX) sign2), some ((sL (sF eX)) [([] : Wd)]), none]) (st_set (E1 := [some ((sF eX) text1), some ((sF eX) sign2), none, none]) (lst_ok (ss := [((sF eX) ([] : Wd))]) (cons_ok (cx lx0x) rfl) rfl (show 1 ≤ 1000 by decide)) (show 2 < 4 by decide) rfl) ?_
  refine Blk.assoc ?_
  refine Blk.forO (E1 := [some ((sF eX) text1), some ((sF eX) sign2), some ((sL (sF eX)) [([] : Wd)]), none]) (E2 := [none, some ((sF eX) sign2), some ((sL (sF eX)) [([] : Wd)]), none]) (as := [.r 0]) (ss := [((sF eX) text1)]) (P := (fun (s8 : (List Wd)) (e : Fw.Env) => ∃ (j9 : Option Sv), e = [none, some ((sF eX) sign2), some ((sL (sF eX)) s8), j9])) (cons_ok rfl rfl) it_x rfl rfl ⟨_, rfl⟩ ?_ ?_
  · rintro char19 found18 _ ⟨j9, rfl⟩
    refine ⟨[none, some ((sF eX) sign2), some ((sL (sF eX)) found18), some ((sF eX) [char19])], rfl, ?_⟩
    show Blk _ (pl_law_parted_1 sign2 char19 found18) _
    unfold pl_law_parted_1 l__law_parted_1
    refine Blk.last ?_
    refine Blk.ite (E1 := [none, some ((sF eX) sign2), some ((sL (sF eX)) found18), some ((sF eX) [char19])]) (tb (bnk (a := .r 3) (b := .r 1) rfl rfl (g_eq (e := eX) (s := ((sF eX) [char19])) (t := ((sF eX) sign2)) dt_f dt_f (by decide)) rfl rfl rfl)) (fun hb => ?_) (fun hb => ?_)
    · refine Blk.bind fun l20 h_l20 => ?_
      refine Blk.nx (E1 := [none, some ((sF eX) sign2), some ((sL (sF eX)) l20), some ((sF eX) [char19])]) (drop_next (me (E1 := [none, some ((sF eX) sign2), some ((sL (sF eX)) found18), some ((sF eX) [char19])]) (E2 := [none, some ((sF eX) sign2), some ((sL (sF eX)) found18), some ((sF eX) [char19])]) (E4 := [none, some ((sF eX) sign2), some ((sL (sF eX)) l20), some ((sF eX) [char19])]) (a := .r 2) (as := [.v ((sF eX) ([] : Wd))]) rfl rfl (cons_ok (cx lx0x) rfl) (g_app (e := eX) h_l20) rfl rfl rfl)) ?_
      exact Blk.fin ⟨_, .inl rfl, _, rfl⟩
    · refine Blk.bind fun t21 h_t21 => ?_
      refine Blk.bind fun w22 h_w22 => ?_
      refine Blk.bind fun l23 h_l23 => ?_
      refine Blk.nx (E1 := [none, some ((sF eX) sign2), some ((sL (sF eX)) l23), some ((sF eX) [char19])]) (st_stI (E1 := [none, some ((sF eX) sign2), some ((sL (sF eX)) found18), some ((sF eX) [char19])]) (E2 := [none, some ((sF eX) sign2), some ((sL (sF eX)) found18), some ((sF eX) [char19])]) (st := (sF eX)) (v := w22) (fz' (d := eX w22) (bnk (a := .v ((sF eX) t21)) (b := .r 3) (bnk (a := .r 2) (b := .v ((sF eI) ((found18.length : Int) - 1))) rfl (bnk (a := .v ((sF eI) (found18.length : Int))) (b := .v ((sF eI) 1)) (clk (as := [.r 2]) (cons_ok rfl rfl) (g_len_o (s := (sF eX))) rfl rfl rfl) rfl g_sub rfl rfl rfl) (g_ix_o (e := eX) h_t21) rfl rfl rfl) rfl (g_add_x h_w22) rfl rfl rfl) rfl) rfl (bnk (a := .v ((sF eI) (found18.length : Int))) (b := .v ((sF eI) 1)) (clk (as := [.r 2]) (cons_ok rfl rfl) (g_len_o (s := (sF eX))) rfl rfl rfl) rfl g_sub rfl rfl rfl) rfl h_l23 rfl) ?_
      exact Blk.fin ⟨_, .inl rfl, _, rfl⟩
  rintro s25 _ ⟨j26, rfl⟩
  refine Blk.env (E' := [some ((sF eX) text1), some ((sF eX) sign2), some ((sL (sF eX)) s25), j26]) ?_ rfl
  refine Blk.ret (s := ((sL (sF eX)) s25)) (E1 := [some ((sF eX) text1), some ((sF eX) sign2), none, j26]) (ret_ret rfl) ?_
  exact Blk.fin ⟨_, .inl rfl, rfl⟩
noncomputable def p_law_written (word1 : Wd) : Option (Option (Wd × (List Wd))) :=
  (okO (okX word1) ()).bind fun u2 =>
  (if decide ((word1.length : Int) < 4) then some true else ((okO (okX word1) ()).bind fun u3 => (okO (okX word1) ()).bind fun u4 => (atI word1 ((word1.length : Int) - 1)).bind fun c5 => some (!decide ([c5] = ([41] : Wd)) || !decide ((40 : Sg) ∈ word1)))).bind fun z6 =>
  if z6 then
    some none
  else
  (idxO 40 word1).bind fun i7 =>
  (okO (okX word1) ()).bind fun u8 =>
  (okO (okX word1) ()).bind fun u9 =>
  (p_law_parted (cutL word1 (some (i7 + 1)) (some ((word1.length : Int) - 1))) ([44] : Wd)).bind fun c10 =>
  (okO (okX word1) ()).bind fun u11 =>
  (p_law_name (cutL word1 none (some i7))).bind fun c12 =>
  (if (!c12) then some true else ((cmpO (fun (name13 : Wd) => (p_law_name name13).bind fun c15 => if (!c15) then (some (some name13)) else some none) c10).bind fun l16 => (capO l16).bind fun l17 => some (!decide (l17 = [])))).bind fun z18 =>
  if z18 then
    some none
  else
  (okO (okX word1) ()).bind fun u19 =>
  some (some ((cutL word1 none (some i7)), c10))
theorem s_law_written {word1 : Wd} {c : (Option (Wd × (List Wd)))} (h : p_law_written word1 = some c) : f__law_written [(sF eX) word1] = .ok ((sF (eO (e2 eX (eT eX)))) c, [some ((sF eX) word1)]) := by
  refine fn_of (P := [true]) (E := [some ((sF eX) word1), none, none, none]) (R := fun (c : (Option (Wd × (List Wd)))) => (sF (eO (e2 eX (eT eX)))) c) (O := fun (c : (Option (Wd × (List Wd)))) => [some ((sF eX) word1)]) (p := p_law_written word1) ?_ h rfl rfl
  unfold p_law_written b__law_written
  refine Blk.last ?_
  refine Blk.assoc ?_
  refine Blk.bind fun u2 h_u2 => ?_
  refine Blk.bind fun z6 h_z6 => ?_
  refine Blk.ite (E1 := [some ((sF eX) word1), none, none, none]) (tor_s (x := decide ((word1.length : Int) < 4)) (E1 := [some ((sF eX) word1), none, none, none]) (E2 := [some ((sF eX) word1), none, none, none]) (tb (bnk (a := .v ((sF eI) (word1.length : Int))) (b := .v ((sF eI) 4)) (clk (as := [.r 0]) (cons_ok rfl rfl) (g_len_x (okO_some h_u2).1) rfl rfl rfl) rfl g_lt rfl rfl rfl)) (fun hx => by rcases iteO h_z6 with ⟨hy, hz⟩ | ⟨hy, hz⟩ <;> first | (rw [hx] at hy; cases hy; done) | (obtain ⟨u3, h_u3, hz⟩ := bnd hz; obtain ⟨u4, h_u4, hz⟩ := bnd hz; obtain ⟨c5, h_c5, hz⟩ := bnd hz; cases hz; exact (tor_t (x := !decide ([c5] = ([41] : Wd))) (y := !decide ((40 : Sg) ∈ word1)) (tb (bnk (a := .v ((sF eX) [c5])) (b := .v ((sF eX) ([41] : Wd))) (bnk (a := .r 0) (b := .v ((sF eI) ((word1.length : Int) - 1))) rfl (bnk (a := .v ((sF eI) (word1.length : Int))) (b := .v ((sF eI) 1)) (clk (as := [.r 0]) (cons_ok rfl rfl) (g_len_x (okO_some h_u3).1) rfl rfl rfl) rfl g_sub rfl rfl rfl) (g_ix_x (okO_some h_u4).1 h_c5) rfl rfl rfl) (cx lx21x) (g_ne (e := eX) (s := ((sF eX) [c5])) (t := ((sF eX) ([41] : Wd))) dt_f dt_f (by decide)) rfl rfl rfl)) (tb (bnk (a := .v ((sF eX) ([40] : Wd))) (b := .r 0) (cx lx20x) rfl (g_ni (s := ((sF eX) ([40] : Wd))) (t := ((sF eX) word1)) dt_f dt_f in_x) rfl rfl rfl))))) (fun hx => by rcases iteO h_z6 with ⟨hy, hz⟩ | ⟨hy, hz⟩ <;> first | (rw [hx] at hy; cases hy; done) | (cases hz; exact ⟨rfl, rfl⟩))) (fun hb => ?_) (fun hb => ?_)
  · refine Blk.ret (s := ((sF eU) ())) (E1 := [some ((sF eX) word1), none, none, none]) (ret_ret rfl) ?_
    exact Blk.fin ⟨_, .inl rfl, rfl⟩
  · refine Blk.nx (E1 := [some ((sF eX) word1), none, none, none]) rfl ?_
    refine Blk.assoc ?_
    refine Blk.bind fun i7 h_i7 => ?_
    refine Blk.nx (E1 := [some ((sF eX) word1), some ((sF eI) i7), none, none]) (st_set (E1 := [some ((sF eX) word1), none, none, none]) (me (E1 := [some ((sF eX) word1), none, none, none]) (E2 := [some ((sF eX) word1), none, none, none]) (E4 := [some ((sF eX) word1), none, none, none]) (a := .r 0) (as := [.v ((sF eX) ([40] : Wd))]) rfl rfl (cons_ok (cx lx20x) rfl) (g_idx_x (c := 40) h_i7) rfl rfl rfl) (show 1 < 4 by decide) rfl) ?_
    refine Blk.assoc ?_
    refine Blk.bind fun u8 h_u8 => ?_
    refine Blk.bind fun u9 h_u9 => ?_
    refine Blk.bind fun c10 h_c10 => ?_
    refine Blk.nx (E1 := [some ((sF eX) word1), some ((sF eI) i7), some ((sL (sF eX)) c10), none]) (st_set (E1 := [some ((sF eX) word1), some ((sF eI) i7), none, none]) (owk (as := [.v ((sF eX) (cutL word1 (some (i7 + 1)) (some ((word1.length : Int) - 1)))), .v ((sF eX) ([44] : Wd))]) (cons_ok (sl_ok (E1 := [some ((sF eX) word1), some ((sF eI) i7), none, none]) (E2 := [some ((sF eX) word1), some ((sF eI) i7), none, none]) (E3 := [some ((sF eX) word1), some ((sF eI) i7), none, none]) (E5 := [some ((sF eX) word1), some ((sF eI) i7), none, none]) (a := .r 0) (s := ((sF eX) word1)) rfl (pat_ok (bnk (a := .r 1) (b := .v ((sF eI) 1)) rfl rfl g_add rfl rfl rfl)) (pat_ok (bnk (a := .v ((sF eI) (word1.length : Int))) (b := .v ((sF eI) 1)) (clk (as := [.r 0]) (cons_ok rfl rfl) (g_len_x (okO_some h_u8).1) rfl rfl rfl) rfl g_sub rfl rfl rfl)) (sl_x (okO_some h_u9).1) rfl rfl) (cons_ok (cx lx22x) rfl)) (s_law_parted h_c10) rfl rfl) (show 2 < 4 by decide) rfl) ?_
    refine Blk.assoc ?_
    refine Blk.bind fun u11 h_u11 => ?_
    refine Blk.bind fun c12 h_c12 => ?_
    refine Blk.bind fun z18 h_z18 => ?_
    refine Blk.ite (E1 := [some ((sF eX) word1), some ((sF eI) i7), some ((sL (sF eX)) c10), none]) (tor_s (x := (!c12)) (E1 := [some ((sF eX) word1), some ((sF eI) i7), some ((sL (sF eX)) c10), none]) (E2 := [some ((sF eX) word1), some ((sF eI) i7), some ((sL (sF eX)) c10), none]) (tnot (tof (x := c12) (a := .v ((sF eB) c12)) (owk (as := [.v ((sF eX) (cutL word1 none (some i7)))]) (cons_ok (sl_ok (E1 := [some ((sF eX) word1), some ((sF eI) i7), some ((sL (sF eX)) c10), none]) (E2 := [some ((sF eX) word1), some ((sF eI) i7), some ((sL (sF eX)) c10), none]) (E3 := [some ((sF eX) word1), some ((sF eI) i7), some ((sL (sF eX)) c10), none]) (E5 := [some ((sF eX) word1), some ((sF eI) i7), some ((sL (sF eX)) c10), none]) (a := .r 0) (s := ((sF eX) word1)) rfl pno_ok (pat_ok rfl) (sl_x (okO_some h_u11).1) rfl rfl) rfl) (s_law_name h_c12) rfl rfl) rfl)) (fun hx => by rcases iteO h_z18 with ⟨hy, hz⟩ | ⟨hy, hz⟩ <;> first | (rw [hx] at hy; cases hy; done) | (obtain ⟨l16, h_l16, hz⟩ := bnd hz; obtain ⟨l17, h_l17, hz⟩ := bnd hz; cases hz; exact (tb (bnk (a := .v ((sL (sF eX)) l17)) (b := .v ((sL (sF eX)) [])) (lc (e := eX) (sv := (sF eX)) (E2 := [some ((sF eX) word1), some ((sF eI) i7), none, none]) (E3 := [some ((sF eX) word1), some ((sF eI) i7), none, none]) (E4 := [some ((sF eX) word1), some ((sF eI) i7), some ((sL (sF eX)) c10), none]) (as := [.r 2]) (ss := [((sL (sF eX)) c10)]) (cons_ok rfl rfl) (it_o (e := eX)) rfl rfl (compL_O (sv := (sF eX)) (e := eX) (f := (fun (name13 : Wd) => (p_law_name name13).bind fun c15 => if (!c15) then (some (some name13)) else some none)) (fun name13 c hz => by obtain ⟨c15, h_c15, hz⟩ := bnd hz; exact (iteO hz).elim (fun hq => by obtain ⟨hb, hz⟩ := hq; cases hz; exact c1_yes (e1 := [some ((sF eX) word1), some ((sF eI) i7), none, some ((sF eX) name13)]) (e2 := [some ((sF eX) word1), some ((sF eI) i7), none, some ((sF eX) name13)]) rfl (okT (tnot (tof (x := c15) (a := .v ((sF eB) c15)) (owk (as := [.r 3]) (cons_ok rfl rfl) (s_law_name h_c15) rfl rfl) rfl)) hb) rfl rfl) (fun hq => by obtain ⟨hb, hz⟩ := hq; cases hz; exact c1_no (e1 := [some ((sF eX) word1), some ((sF eI) i7), none, some ((sF eX) name13)]) (e2 := [some ((sF eX) word1), some ((sF eI) i7), none, some ((sF eX) name13)]) rfl (okF (tnot (tof (x := c15) (a := .v ((sF eB) c15)) (owk (as := [.r 3]) (cons_ok rfl rfl) (s_law_name h_c15) rfl rfl) rfl)) hb) rfl)) h_l16) h_l17 rfl) (lst_ok (ss := []) rfl rfl (show 0 ≤ 1000 by decide)) (g_ne (e := (eL eX)) (s := ((sL (sF eX)) l17)) (t := ((sL (sF eX)) [])) dt_o dt_o (by decide)) rfl rfl rfl)))) (fun hx => by rcases iteO h_z18 with ⟨hy, hz⟩ | ⟨hy, hz⟩ <;> first | (rw [hx] at hy; cases hy; done) | (cases hz; exact ⟨rfl, rfl⟩))) (fun hb => ?_) (fun hb => ?_)
    · refine Blk.ret (s := ((sF eU) ())) (E1 := [some ((sF eX) word1), some ((sF eI) i7), some ((sL (sF eX)) c10), none]) (ret_ret rfl) ?_
      exact Blk.fin ⟨_, .inl rfl, rfl⟩
    · refine Blk.nx (E1 := [some ((sF eX) word1), some ((sF eI) i7), some ((sL (sF eX)) c10), none]) rfl ?_
      refine Blk.bind fun u19 h_u19 => ?_
      refine Blk.ret (s := ((sF (e2 eX (eT eX))) ((cutL word1 none (some i7)), c10))) (E1 := [some ((sF eX) word1), some ((sF eI) i7), some ((sL (sF eX)) c10), none]) (ret_ret (tup_ok (ss := [((sF eX) (cutL word1 none (some i7))), ((sF (eT eX)) c10)]) (d := (e2 eX (eT eX)) ((cutL word1 none (some i7)), c10)) (cons_ok (fz' (d := eX (cutL word1 none (some i7))) (sl_ok (E1 := [some ((sF eX) word1), some ((sF eI) i7), some ((sL (sF eX)) c10), none]) (E2 := [some ((sF eX) word1), some ((sF eI) i7), some ((sL (sF eX)) c10), none]) (E3 := [some ((sF eX) word1), some ((sF eI) i7), some ((sL (sF eX)) c10), none]) (E5 := [some ((sF eX) word1), some ((sF eI) i7), some ((sL (sF eX)) c10), none]) (a := .r 0) (s := ((sF eX) word1)) rfl pno_ok (pat_ok rfl) (sl_x (okO_some h_u19).1) rfl rfl) rfl) (cons_ok (clk (as := [.r 2]) (cons_ok rfl rfl) (g_tup_o (e := eX)) rfl rfl rfl) rfl)) rfl rfl (show 2 ≤ 1000 by decide))) ?_
      exact Blk.fin ⟨_, .inl rfl, rfl⟩
noncomputable def pl_words_of_1 (word17 : Wd) (found15 : (List (Int × Wd))) (column16 : Int) : Option ((List (Int × Wd)) × Int) :=
  (capO (found15 ++ [(column16, word17)])).bind fun l18 =>
  (okO (okX word17) ()).bind fun u19 =>
  some (l18, ((column16 + (word17.length : Int)) + 1))
noncomputable def p_words_of (line1 : Wd) : Option (List (Int × Wd)) :=
  (okO (okX line1) ()).bind fun u2 =>
  (forO (fun (x20 : Wd) (s6 : ((List (Int × Wd)) × Int)) => pl_words_of_1 x20 s6.1 s6.2) (spl1 32 line1) ([], 1)).bind fun s21 =>
  some s21.1
theorem s_words_of {line1 : Wd} {c : (List (Int × Wd))} (h : p_words_of line1 = some c) : f_words_of [(sF eX) line1] = .ok ((sL (sF (e2 eI eX))) c, [some ((sF eX) line1)]) := by
  refine fn_of (P := [true]) (E := [some ((sF eX) line1), none, none, none]) (R := fun (c : (List (Int × Wd))) => (sL (sF (e2 eI eX))) c) (O := fun (c : (List (Int × Wd))) => [some ((sF eX) line1)]) (p := p_words_of line1) ?_ h rfl rfl
  unfold p_words_of b_words_of
  refine Blk.last ?_
  refine Blk.assoc ?_
  refine Blk.nx (E1 := [some ((sF eX) line1), some ((sL (sF (e2 eI eX))) []), none, none]) (st_set (E1 := [some ((sF eX) line1), none, none, none]) (lst_ok (ss := []) rfl rfl (show 0 ≤ 1000 by decide)) (show 1 < 4 by decide) rfl) ?_
  refine Blk.assoc ?_
  refine Blk.nx (E1 := [some ((sF eX) line1), some ((sL (sF (e2 eI eX))) []), some ((sF eI) 1), none]) (st_set (E1 := [some ((sF eX) line1), some ((sL (sF (e2 eI eX))) []), none, none]) rfl (show 2 < 4 by decide) rfl) ?_
  refine Blk.assoc ?_
  refine Blk.bind fun u2 h_u2 => ?_
  refine Blk.forO (E1 := [some ((sF eX) line1), some ((sL (sF (e2 eI eX))) []), some ((sF eI) 1), none]) (E2 := [some ((sF eX) line1), some ((sL (sF (e2 eI eX))) []), some ((sF eI) 1), none]) (as := [.v ((sL (sF eX)) (spl1 32 line1))]) (ss := [((sL (sF eX)) (spl1 32 line1))]) (P := (fun (s6 : ((List (Int × Wd)) × Int)) (e : Fw.Env) => ∃ (j7 : Option Sv), e = [some ((sF eX) line1), some ((sL (sF (e2 eI eX))) s6.1), some ((sF eI) s6.2), j7])) (cons_ok (me (E1 := [some ((sF eX) line1), some ((sL (sF (e2 eI eX))) []), some ((sF eI) 1), none]) (E2 := [some ((sF eX) line1), some ((sL (sF (e2 eI eX))) []), some ((sF eI) 1), none]) (E4 := [some ((sF eX) line1), some ((sL (sF (e2 eI eX))) []), some ((sF eI) 1), none]) (a := .r 0) (as := [.v ((sF eX) ([32] : Wd))]) rfl rfl (cons_ok (cx lx27x) rfl) (g_split_x (c := 32) (okO_some h_u2).1 (by decide)) rfl rfl rfl) rfl) (it_o (e := eX)) rfl rfl ⟨_, rfl⟩ ?_ ?_
  · rintro word17 ⟨found15, column16⟩ _ ⟨j7, rfl⟩
    refine ⟨[some ((sF eX) line1), some ((sL (sF (e2 eI eX))) found15), some ((sF eI) column16), some ((sF eX) word17)], rfl, ?_⟩
    show Blk _ (pl_words_of_1 word17 found15 column16) _
    unfold pl_words_of_1 l_words_of_1
    refine Blk.last ?_
    refine Blk.assoc ?_
    refine Blk.bind fun l18 h_l18 => ?_
    refine Blk.nx (E1 := [some ((sF eX) line1), some ((sL (sF (e2 eI eX))) l18), some ((sF eI) column16), some ((sF eX) word17)]) (drop_next (me (E1 := [some ((sF eX) line1), some ((sL (sF (e2 eI eX))) found15), some ((sF eI) column16), some ((sF eX) word17)]) (E2 := [some ((sF eX) line1), some ((sL (sF (e2 eI eX))) found15), some ((sF eI) column16), some ((sF eX) word17)]) (E4 := [some ((sF eX) line1), some ((sL (sF (e2 eI eX))) l18), some ((sF eI) column16), some ((sF eX) word17)]) (a := .r 1) (as := [.v ((sF (e2 eI eX)) (column16, word17))]) rfl rfl (cons_ok (tup_ok (ss := [((sF eI) column16), ((sF eX) word17)]) (d := (e2 eI eX) (column16, word17)) (cons_ok rfl (cons_ok rfl rfl)) rfl rfl (show 2 ≤ 1000 by decide)) rfl) (g_app (e := (e2 eI eX)) h_l18) rfl rfl rfl)) ?_
    refine Blk.bind fun u19 h_u19 => ?_
    refine Blk.nx (E1 := [some ((sF eX) line1), some ((sL (sF (e2 eI eX))) l18), some ((sF eI) ((column16 + (word17.length : Int)) + 1)), some ((sF eX) word17)]) (st_set (E1 := [some ((sF eX) line1), some ((sL (sF (e2 eI eX))) l18), some ((sF eI) column16), some ((sF eX) word17)]) (bnk (a := .v ((sF eI) (column16 + (word17.length : Int)))) (b := .v ((sF eI) 1)) (bnk (a := .r 2) (b := .v ((sF eI) (word17.length : Int))) rfl (clk (as := [.r 3]) (cons_ok rfl rfl) (g_len_x (okO_some h_u19).1) rfl rfl rfl) g_add rfl rfl rfl) rfl g_add rfl rfl rfl) (show 2 < 4 by decide) rfl) ?_
    exact Blk.fin ⟨_, .inl rfl, _, rfl⟩
  rintro s21 _ ⟨j22, rfl⟩
  refine Blk.env (E' := [some ((sF eX) line1), some ((sL (sF (e2 eI eX))) s21.1), some ((sF eI) s21.2), j22]) ?_ rfl
  refine Blk.ret (s := ((sL (sF (e2 eI eX))) s21.1)) (E1 := [some ((sF eX) line1), none, some ((sF eI) s21.2), j22]) (ret_ret rfl) ?_
  exact Blk.fin ⟨_, .inl rfl, rfl⟩
noncomputable def pl_law_1 (word36 : Wd) : Option (Ct Unit Bool) :=
  (p_is_name word36).bind fun c37 =>
  (p_law_name word36).bind fun c38 =>
  (okO (szOk (eB c38)) ()).bind fun u39 =>
  (if (!(decide (c37 = c38))) then some true else ((p_is_numeral word36).bind fun c40 => (p_law_numeral word36).bind fun c41 => (okO (szOk (eB c41)) ()).bind fun u42 => some (!(decide (c40 = c41))))).bind fun z43 =>
  if z43 then
    some (Ct.rt false)
  else
  (p_atom_of word36).bind fun c44 =>
  (p_law_written word36).bind fun c45 =>
  (okO (szOk ((eO (e2 eX (eT eX))) c45)) ()).bind fun u46 =>
  if (!(decide (c44 = c45))) then
    some (Ct.rt false)
  else
  some (Ct.nx ())
noncomputable def pl_law_2 (l9 : (List Wd)) (k78 : Int) (draws76 : (List Int)) (line77 : Wd) : Option ((List Int) × Wd) :=
  (p_law_pick draws76 l9).bind fun c79 =>
  (capO (line77 ++ c79.1)).bind fun w80 =>
  (p_law_take c79.2 2).bind fun c81 =>
  (okO (okX ([32] : Wd)) ()).bind fun u82 =>
  (capO (w80 ++ (cutL ([32] : Wd) none (some c81.1)))).bind fun w83 =>
  (p_law_take c81.2 3).bind fun c84 =>
  (okO (okX ([32, 32] : Wd)) ()).bind fun u85 =>
  (capO (w83 ++ (cutL ([32, 32] : Wd) none (some c84.1)))).bind fun w86 =>
  some (c84.2, w86)
noncomputable def pl_law_3 (word105 : Wd) (due103 : (List (Int × Wd))) (column104 : Int) : Option ((List (Int × Wd)) × Int) :=
  (capO (due103 ++ [(column104, word105)])).bind fun l106 =>
  (okO (okX word105) ()).bind fun u107 =>
  some (l106, ((column104 + (word105.length : Int)) + 1))
noncomputable def p_law (script1 : (List Int)) : Option Bool :=
  (p_law_draws script1).bind fun c2 =>
  (cmpS (fun (k3 : Int) (s5 : (List Int)) => (p_law_word s5).bind fun c6 => some (some c6.1, c6.2)) (rgL 0 (8 : Int).toNat) c2).bind fun z7 =>
  (capO z7.1).bind fun l8 =>
  (capO ([([] : Wd), ([40, 41] : Wd), ([97, 40, 41] : Wd), ([97, 40, 98, 41] : Wd), ([40, 98, 41] : Wd), ([97, 40, 98, 41, 99] : Wd), ([97, 40, 98, 41, 41] : Wd), ([97, 40, 40, 98, 41] : Wd)] ++ l8)).bind fun l9 =>
  (forC (fun (x47 : Wd) (s21 : Unit) => pl_law_1 x47) l9 ()).bind (ctO (fun s48 =>
  (p_law_take z7.2 6).bind fun c50 =>
  (okO (small62 c50.1) ()).bind fun u51 =>
  (forO (fun (x87 : Int) (s61 : ((List Int) × Wd)) => pl_law_2 l9 x87 s61.1 s61.2) (rgL 0 c50.1.toNat) (c50.2, ([] : Wd))).bind fun s88 =>
  (p_law_parted s88.2 ([32] : Wd)).bind fun c90 =>
  (forO (fun (x108 : Wd) (s94 : ((List (Int × Wd)) × Int)) => pl_law_3 x108 s94.1 s94.2) c90 ([], 1)).bind fun s109 =>
  (p_words_of s88.2).bind fun c111 =>
  (okO (szOk ((eL (e2 eI eX)) s109.1)) ()).bind fun u112 =>
  (if decide (c111 = s109.1) then ((p_words_of ([] : Wd)).bind fun c113 => (okO (szOk ((eL (e2 eI eX)) [(1, ([] : Wd))])) ()).bind fun u114 => some (decide (c113 = [(1, ([] : Wd))]))) else some false).bind fun z115 =>
  some z115) fun v116 => some v116)
theorem s_law {script1 : (List Int)} {c : Bool} (h : p_law script1 = some c) : f_law [(sF (eL eI)) script1] = .ok ((sF eB) c, [some ((sF (eL eI)) script1)]) := by
  refine fn_of (P := [true]) (E := [some ((sF (eL eI)) script1), none, none, none, none, none, none, none]) (R := fun (c : Bool) => (sF eB) c) (O := fun (c : Bool) => [some ((sF (eL eI)) script1)]) (p := p_law script1) ?_ h rfl rfl
  unfold p_law b_law
  refine Blk.last ?_
  refine Blk.assoc ?_
  refine Blk.bind fun c2 h_c2 => ?_
  refine Blk.nx (E1 := [some ((sF (eL eI)) script1), some ((sL (sF eI)) c2), none, none, none, none, none, none]) (st_set (E1 := [some ((sF (eL eI)) script1), none, none, none, none, none, none, none]) (owk (as := [.r 0]) (cons_ok rfl rfl) (s_law_draws h_c2) rfl rfl) (show 1 < 8 by decide) rfl) ?_
  refine Blk.assoc ?_
  refine Blk.nx (E1 := [some ((sF (eL eI)) script1), some ((sL (sF eI)) c2), some ((sL (sF eX)) [([] : Wd), ([40, 41] : Wd), ([97, 40, 41] : Wd), ([97, 40, 98, 41] : Wd), ([40, 98, 41] : Wd), ([97, 40, 98, 41, 99] : Wd), ([97, 40, 98, 41, 41] : Wd), ([97, 40, 40, 98, 41] : Wd)]), none, none, none, none, none]) (st_set (E1 := [some ((sF (eL eI)) script1), some ((sL (sF eI)) c2), none, none, none, none, none, none]) (lst_ok (ss := [((sF eX) ([] : Wd)), ((sF eX) ([40, 41] : Wd)), ((sF eX) ([97, 40, 41] : Wd)), ((sF eX) ([97, 40, 98, 41] : Wd)), ((sF eX) ([40, 98, 41] : Wd)), ((sF eX) ([97, 40, 98, 41, 99] : Wd)), ((sF eX) ([97, 40, 98, 41, 41] : Wd)), ((sF eX) ([97, 40, 40, 98, 41] : Wd))]) (cons_ok (cx lx0x) (cons_ok (cx lx1x) (cons_ok (cx lx2x) (cons_ok (cx lx3x) (cons_ok (cx lx4x) (cons_ok (cx lx5x) (cons_ok (cx lx6x) (cons_ok (cx lx7x) rfl)))))))) rfl (show 8 ≤ 1000 by decide)) (show 2 < 8 by decide) rfl) ?_
  refine Blk.assoc ?_
  refine Blk.bind fun z7 h_z7 => ?_
  refine Blk.bind fun l8 h_l8 => ?_
  refine Blk.bind fun l9 h_l9 => ?_
  refine Blk.nx (E1 := [some ((sF (eL eI)) script1), some ((sL (sF eI)) z7.2), some ((sL (sF eX)) l9), none, none, none, none, none]) (st_set (E1 := [some ((sF (eL eI)) script1), some ((sL (sF eI)) z7.2), some ((sL (sF eX)) [([] : Wd), ([40, 41] : Wd), ([97, 40, 41] : Wd), ([97, 40, 98, 41] : Wd), ([40, 98, 41] : Wd), ([97, 40, 98, 41, 99] : Wd), ([97, 40, 98, 41, 41] : Wd), ([97, 40, 40, 98, 41] : Wd)]), none, none, none, none, none]) (bn (E1 := [some ((sF (eL eI)) script1), some ((sL (sF eI)) c2), some ((sL (sF eX)) [([] : Wd), ([40, 41] : Wd), ([97, 40, 41] : Wd), ([97, 40, 98, 41] : Wd), ([40, 98, 41] : Wd), ([97, 40, 98, 41, 99] : Wd), ([97, 40, 98, 41, 41] : Wd), ([97, 40, 40, 98, 41] : Wd)]), none, none, none, none, none]) (E2 := [some ((sF (eL eI)) script1), some ((sL (sF eI)) z7.2), some ((sL (sF eX)) [([] : Wd), ([40, 41] : Wd), ([97, 40, 41] : Wd), ([97, 40, 98, 41] : Wd), ([40, 98, 41] : Wd), ([97, 40, 98, 41, 99] : Wd), ([97, 40, 98, 41, 41] : Wd), ([97, 40, 40, 98, 41] : Wd)]), none, none, none, none, none]) (E4 := [some ((sF (eL eI)) script1), some ((sL (sF eI)) z7.2), some ((sL (sF eX)) [([] : Wd), ([40, 41] : Wd), ([97, 40, 41] : Wd), ([97, 40, 98, 41] : Wd), ([40, 98, 41] : Wd), ([97, 40, 98, 41, 99] : Wd), ([97, 40, 98, 41, 41] : Wd), ([97, 40, 40, 98, 41] : Wd)]), none, none, none, none, none]) (a := .r 2) (b := .v ((sL (sF eX)) l8)) rfl (lc (e := eI) (sv := (sF eX)) (E2 := [some ((sF (eL eI)) script1), some ((sL (sF eI)) c2), some ((sL (sF eX)) [([] : Wd), ([40, 41] : Wd), ([97, 40, 41] : Wd), ([97, 40, 98, 41] : Wd), ([40, 98, 41] : Wd), ([97, 40, 98, 41, 99] : Wd), ([97, 40, 98, 41, 41] : Wd), ([97, 40, 40, 98, 41] : Wd)]), none, none, none, none, none]) (E3 := [some ((sF (eL eI)) script1), some ((sL (sF eI)) z7.2), some ((sL (sF eX)) [([] : Wd), ([40, 41] : Wd), ([97, 40, 41] : Wd), ([97, 40, 98, 41] : Wd), ([40, 98, 41] : Wd), ([97, 40, 98, 41, 99] : Wd), ([97, 40, 98, 41, 41] : Wd), ([97, 40, 40, 98, 41] : Wd)]), none, none, none, none, none]) (E4 := [some ((sF (eL eI)) script1), some ((sL (sF eI)) z7.2), some ((sL (sF eX)) [([] : Wd), ([40, 41] : Wd), ([97, 40, 41] : Wd), ([97, 40, 98, 41] : Wd), ([40, 98, 41] : Wd), ([97, 40, 98, 41, 99] : Wd), ([97, 40, 98, 41, 41] : Wd), ([97, 40, 40, 98, 41] : Wd)]), none, none, none, none, none]) (as := [.v ((sF eI) 8)]) (ss := [((sF eI) 8)]) (cons_ok rfl rfl) (it_r1 (small_of (by decide) (by decide))) rfl rfl (compL_S (sv := (sF eX)) (e := eI) (f := (fun (k3 : Int) (s5 : (List Int)) => (p_law_word s5).bind fun c6 => some (some c6.1, c6.2))) (B := fun (s5 : (List Int)) => [some ((sF (eL eI)) script1), some ((sL (sF eI)) s5), some ((sL (sF eX)) [([] : Wd), ([40, 41] : Wd), ([97, 40, 41] : Wd), ([97, 40, 98, 41] : Wd), ([40, 98, 41] : Wd), ([97, 40, 98, 41, 99] : Wd), ([97, 40, 98, 41, 41] : Wd), ([97, 40, 40, 98, 41] : Wd)]), none, none, none, none, none]) (fun k3 s5 c s' hz => by obtain ⟨c6, h_c6, hz⟩ := bnd hz; cases hz; exact c1_yes (e1 := [some ((sF (eL eI)) script1), some ((sL (sF eI)) s5), some ((sL (sF eX)) [([] : Wd), ([40, 41] : Wd), ([97, 40, 41] : Wd), ([97, 40, 98, 41] : Wd), ([40, 98, 41] : Wd), ([97, 40, 98, 41, 99] : Wd), ([97, 40, 98, 41, 41] : Wd), ([97, 40, 40, 98, 41] : Wd)]), none, none, some ((sF eI) k3), none, none]) (e2 := [some ((sF (eL eI)) script1), some ((sL (sF eI)) s5), some ((sL (sF eX)) [([] : Wd), ([40, 41] : Wd), ([97, 40, 41] : Wd), ([97, 40, 98, 41] : Wd), ([40, 98, 41] : Wd), ([97, 40, 98, 41, 99] : Wd), ([97, 40, 98, 41, 41] : Wd), ([97, 40, 40, 98, 41] : Wd)]), none, none, some ((sF eI) k3), none, none]) rfl rfl (fz' (d := eX c6.1) (ow (E1 := [some ((sF (eL eI)) script1), some ((sL (sF eI)) s5), some ((sL (sF eX)) [([] : Wd), ([40, 41] : Wd), ([97, 40, 41] : Wd), ([97, 40, 98, 41] : Wd), ([40, 98, 41] : Wd), ([97, 40, 98, 41, 99] : Wd), ([97, 40, 98, 41, 41] : Wd), ([97, 40, 40, 98, 41] : Wd)]), none, none, some ((sF eI) k3), none, none]) (E4 := [some ((sF (eL eI)) script1), some ((sL (sF eI)) c6.2), some ((sL (sF eX)) [([] : Wd), ([40, 41] : Wd), ([97, 40, 41] : Wd), ([97, 40, 98, 41] : Wd), ([40, 98, 41] : Wd), ([97, 40, 98, 41, 99] : Wd), ([97, 40, 98, 41, 41] : Wd), ([97, 40, 40, 98, 41] : Wd)]), none, none, some ((sF eI) k3), none, none]) (as := [.r 1]) (cons_ok rfl rfl) (s_law_word h_c6) rfl rfl) rfl) rfl) h_z7) h_l8 rfl) (g_add_l (s := ((sL (sF eX)) [([] : Wd), ([40, 41] : Wd), ([97, 40, 41] : Wd), ([97, 40, 98, 41] : Wd), ([40, 98, 41] : Wd), ([97, 40, 98, 41, 99] : Wd), ([97, 40, 98, 41, 41] : Wd), ([97, 40, 40, 98, 41] : Wd)])) (t := ((sL (sF eX)) l8)) elemsL_o elemsL_o h_l9) rfl rfl rfl) (show 2 < 8 by decide) rfl) ?_
  refine Blk.assoc ?_
  refine Blk.forC (E1 := [some ((sF (eL eI)) script1), some ((sL (sF eI)) z7.2), some ((sL (sF eX)) l9), none, none, none, none, none]) (E2 := [some ((sF (eL eI)) script1), some ((sL (sF eI)) z7.2), none, none, none, none, none, none]) (as := [.r 2]) (ss := [((sL (sF eX)) l9)]) (P := (fun (s21 : Unit) (e : Fw.Env) => ∃ (j22 : Option Sv), e = [some ((sF (eL eI)) script1), some ((sL (sF eI)) z7.2), none, j22, none, none, none, none])) (R := (fun (v34 : Bool) (w : Sv) (e : Fw.Env) => w = (sF eB) v34 ∧ ∃ (j35 : Option Sv), e = [some ((sF (eL eI)) script1), some ((sL (sF eI)) z7.2), none, j35, none, none, none, none])) (cons_ok rfl rfl) (it_o (e := eX)) rfl rfl ⟨_, rfl⟩ ?_ ?_ ?_
  · rintro word36 ⟨⟩ _ ⟨j22, rfl⟩
    refine ⟨[some ((sF (eL eI)) script1), some ((sL (sF eI)) z7.2), none, some ((sF eX) word36), none, none, none, none], rfl, ?_⟩
    show Blk _ (pl_law_1 word36) _
    unfold pl_law_1 l_law_2
    refine Blk.last ?_
    refine Blk.assoc ?_
    refine Blk.bind fun c37 h_c37 => ?_
    refine Blk.bind fun c38 h_c38 => ?_
    refine Blk.bind fun u39 h_u39 => ?_
    refine Blk.bind fun z43 h_z43 => ?_
    refine Blk.ite (E1 := [some ((sF (eL eI)) script1), some ((sL (sF eI)) z7.2), none, some ((sF eX) word36), none, none, none, none]) (tor_s (x := (!(decide (c37 = c38)))) (E1 := [some ((sF (eL eI)) script1), some ((sL (sF eI)) z7.2), none, some ((sF eX) word36), none, none, none, none]) (E2 := [some ((sF (eL eI)) script1), some ((sL (sF eI)) z7.2), none, some ((sF eX) word36), none, none, none, none]) (tnot (tof (x := decide (c37 = c38)) (a := .v ((sF eB) (decide (c37 = c38)))) (owk (as := [.v ((sF eB) c37), .v ((sF eB) c38)]) (cons_ok (owk (as := [.r 3]) (cons_ok rfl rfl) (s_is_name h_c37) rfl rfl) (cons_ok (owk (as := [.r 3]) (cons_ok rfl rfl) (s_law_name h_c38) rfl rfl) rfl)) (s_law_same (e := eB) (s := ((sF eB) c37)) (t := ((sF eB) c38)) (x := c37) (y := c38) rfl rfl (okO_some h_u39).1 (by decide)) rfl rfl) rfl)) (fun hx => by rcases iteO h_z43 with ⟨hy, hz⟩ | ⟨hy, hz⟩ <;> first | (rw [hx] at hy; cases hy; done) | (obtain ⟨c40, h_c40, hz⟩ := bnd hz; obtain ⟨c41, h_c41, hz⟩ := bnd hz; obtain ⟨u42, h_u42, hz⟩ := bnd hz; cases hz; exact (tnot (tof (x := decide (c40 = c41)) (a := .v ((sF eB) (decide (c40 = c41)))) (owk (as := [.v ((sF eB) c40), .v ((sF eB) c41)]) (cons_ok (owk (as := [.r 3]) (cons_ok rfl rfl) (s_is_numeral h_c40) rfl rfl) (cons_ok (owk (as := [.r 3]) (cons_ok rfl rfl) (s_law_numeral h_c41) rfl rfl) rfl)) (s_law_same (e := eB) (s := ((sF eB) c40)) (t := ((sF eB) c41)) (x := c40) (y := c41) rfl rfl (okO_some h_u42).1 (by decide)) rfl rfl) rfl)))) (fun hx => by rcases iteO h_z43 with ⟨hy, hz⟩ | ⟨hy, hz⟩ <;> first | (rw [hx] at hy; cases hy; done) | (cases hz; exact ⟨rfl, rfl⟩))) (fun hb => ?_) (fun hb => ?_)
    · refine Blk.ret (s := ((sF eB) false)) (E1 := [some ((sF (eL eI)) script1), some ((sL (sF eI)) z7.2), none, some ((sF eX) word36), none, none, none, none]) (ret_ret rfl) ?_
      exact Blk.fin ⟨_, _, rfl, rfl, _, rfl⟩
    · refine Blk.nx (E1 := [some ((sF (eL eI)) script1), some ((sL (sF eI)) z7.2), none, some ((sF eX) word36), none, none, none, none]) rfl ?_
      refine Blk.bind fun c44 h_c44 => ?_
      refine Blk.bind fun c45 h_c45 => ?_
      refine Blk.bind fun u46 h_u46 => ?_
      refine Blk.ite (E1 := [some ((sF (eL eI)) script1), some ((sL (sF eI)) z7.2), none, some ((sF eX) word36), none, none, none, none]) (tnot (tof (x := decide (c44 = c45)) (a := .v ((sF eB) (decide (c44 = c45)))) (owk (as := [.v ((sF (eO (e2 eX (eT eX)))) c44), .v ((sF (eO (e2 eX (eT eX)))) c45)]) (cons_ok (owk (as := [.r 3]) (cons_ok rfl rfl) (s_atom_of h_c44) rfl rfl) (cons_ok (owk (as := [.r 3]) (cons_ok rfl rfl) (s_law_written h_c45) rfl rfl) rfl)) (s_law_same (e := (eO (e2 eX (eT eX)))) (s := ((sF (eO (e2 eX (eT eX)))) c44)) (t := ((sF (eO (e2 eX (eT eX)))) c45)) (x := c44) (y := c45) rfl rfl (okO_some h_u46).1 (by decide)) rfl rfl) rfl)) (fun hb => ?_) (fun hb => ?_)
      · refine Blk.ret (s := ((sF eB) false)) (E1 := [some ((sF (eL eI)) script1), some ((sL (sF eI)) z7.2), none, some ((sF eX) word36), none, none, none, none]) (ret_ret rfl) ?_
        exact Blk.fin ⟨_, _, rfl, rfl, _, rfl⟩
      · refine Blk.nx (E1 := [some ((sF (eL eI)) script1), some ((sL (sF eI)) z7.2), none, some ((sF eX) word36), none, none, none, none]) rfl ?_
        exact Blk.fin ⟨_, .inl rfl, _, rfl⟩
  · rintro s48 _ ⟨j49, rfl⟩
    refine Blk.env (E' := [some ((sF (eL eI)) script1), some ((sL (sF eI)) z7.2), some ((sL (sF eX)) l9), j49, none, none, none, none]) ?_ rfl
    refine Blk.assoc ?_
    refine Blk.nx (E1 := [some ((sF (eL eI)) script1), some ((sL (sF eI)) z7.2), some ((sL (sF eX)) l9), j49, some ((sF eX) ([] : Wd)), none, none, none]) (st_set (E1 := [some ((sF (eL eI)) script1), some ((sL (sF eI)) z7.2), some ((sL (sF eX)) l9), j49, none, none, none, none]) (cx lx0x) (show 4 < 8 by decide) rfl) ?_
    refine Blk.assoc ?_
    refine Blk.bind fun c50 h_c50 => ?_
    refine Blk.bind fun u51 h_u51 => ?_
    refine Blk.forO (E1 := [some ((sF (eL eI)) script1), some ((sL (sF eI)) c50.2), some ((sL (sF eX)) l9), j49, some ((sF eX) ([] : Wd)), none, none, none]) (E2 := [some ((sF (eL eI)) script1), some ((sL (sF eI)) c50.2), some ((sL (sF eX)) l9), j49, some ((sF eX) ([] : Wd)), none, none, none]) (as := [.v ((sF eI) c50.1)]) (ss := [((sF eI) c50.1)]) (P := (fun (s61 : ((List Int) × Wd)) (e : Fw.Env) => ∃ (j62 : Option Sv), e = [some ((sF (eL eI)) script1), some ((sL (sF eI)) s61.1), some ((sL (sF eX)) l9), j49, some ((sF eX) s61.2), j62, none, none])) (cons_ok (ow (E1 := [some ((sF (eL eI)) script1), some ((sL (sF eI)) z7.2), some ((sL (sF eX)) l9), j49, some ((sF eX) ([] : Wd)), none, none, none]) (E4 := [some ((sF (eL eI)) script1), some ((sL (sF eI)) c50.2), some ((sL (sF eX)) l9), j49, some ((sF eX) ([] : Wd)), none, none, none]) (as := [.r 1, .v ((sF eI) 6)]) (cons_ok rfl (cons_ok rfl rfl)) (s_law_take h_c50) rfl rfl) rfl) (it_r1 (okO_some h_u51).1) rfl rfl ⟨_, rfl⟩ ?_ ?_
    · rintro k78 ⟨draws76, line77⟩ _ ⟨j62, rfl⟩
      refine ⟨[some ((sF (eL eI)) script1), some ((sL (sF eI)) draws76), some ((sL (sF eX)) l9), j49, some ((sF eX) line77), some ((sF eI) k78), none, none], rfl, ?_⟩
      show Blk _ (pl_law_2 l9 k78 draws76 line77) _
      unfold pl_law_2 l_law_3
      refine Blk.last ?_
      refine Blk.bind fun c79 h_c79 => ?_
      refine Blk.bind fun w80 h_w80 => ?_
      refine Blk.bind fun c81 h_c81 => ?_
      refine Blk.bind fun u82 h_u82 => ?_
      refine Blk.bind fun w83 h_w83 => ?_
      refine Blk.bind fun c84 h_c84 => ?_
      refine Blk.bind fun u85 h_u85 => ?_
      refine Blk.bind fun w86 h_w86 => ?_
      refine Blk.nx (E1 := [some ((sF (eL eI)) script1), some ((sL (sF eI)) c84.2), some ((sL (sF eX)) l9), j49, some ((sF eX) w86), some ((sF eI) k78), none, none]) (st_set (E1 := [some ((sF (eL eI)) script1), some ((sL (sF eI)) c84.2), some ((sL (sF eX)) l9), j49, some ((sF eX) line77), some ((sF eI) k78), none, none]) (bn (E1 := [some ((sF (eL eI)) script1), some ((sL (sF eI)) c81.2), some ((sL (sF eX)) l9), j49, some ((sF eX) line77), some ((sF eI) k78), none, none]) (E2 := [some ((sF (eL eI)) script1), some ((sL (sF eI)) c84.2), some ((sL (sF eX)) l9), j49, some ((sF eX) line77), some ((sF eI) k78), none, none]) (E4 := [some ((sF (eL eI)) script1), some ((sL (sF eI)) c84.2), some ((sL (sF eX)) l9), j49, some ((sF eX) line77), some ((sF eI) k78), none, none]) (a := .v ((sF eX) w83)) (b := .v ((sF eX) (cutL ([32, 32] : Wd) none (some c84.1)))) (bn (E1 := [some ((sF (eL eI)) script1), some ((sL (sF eI)) c79.2), some ((sL (sF eX)) l9), j49, some ((sF eX) line77), some ((sF eI) k78), none, none]) (E2 := [some ((sF (eL eI)) script1), some ((sL (sF eI)) c81.2), some ((sL (sF eX)) l9), j49, some ((sF eX) line77), some ((sF eI) k78), none, none]) (E4 := [some ((sF (eL eI)) script1), some ((sL (sF eI)) c81.2), some ((sL (sF eX)) l9), j49, some ((sF eX) line77), some ((sF eI) k78), none, none]) (a := .v ((sF eX) w80)) (b := .v ((sF eX) (cutL ([32] : Wd) none (some c81.1)))) (bn (E1 := [some ((sF (eL eI)) script1), some ((sL (sF eI)) draws76), some ((sL (sF eX)) l9), j49, some ((sF eX) line77), some ((sF eI) k78), none, none]) (E2 := [some ((sF (eL eI)) script1), some ((sL (sF eI)) c79.2), some ((sL (sF eX)) l9), j49, some ((sF eX) line77), some ((sF eI) k78), none, none]) (E4 := [some ((sF (eL eI)) script1), some ((sL (sF eI)) c79.2), some ((sL (sF eX)) l9), j49, some ((sF eX) line77), some ((sF eI) k78), none, none]) (a := .r 4) (b := .v ((sF eX) c79.1)) rfl (ow (E1 := [some ((sF (eL eI)) script1), some ((sL (sF eI)) draws76), some ((sL (sF eX)) l9), j49, some ((sF eX) line77), some ((sF eI) k78), none, none]) (E4 := [some ((sF (eL eI)) script1), some ((sL (sF eI)) c79.2), some ((sL (sF eX)) l9), j49, some ((sF eX) line77), some ((sF eI) k78), none, none]) (as := [.r 1, .r 2]) (cons_ok rfl (cons_ok rfl rfl)) (s_law_pick h_c79) rfl rfl) (g_add_x h_w80) rfl rfl rfl) (sl_ok (E1 := [some ((sF (eL eI)) script1), some ((sL (sF eI)) c79.2), some ((sL (sF eX)) l9), j49, some ((sF eX) line77), some ((sF eI) k78), none, none]) (E2 := [some ((sF (eL eI)) script1), some ((sL (sF eI)) c79.2), some ((sL (sF eX)) l9), j49, some ((sF eX) line77), some ((sF eI) k78), none, none]) (E3 := [some ((sF (eL eI)) script1), some ((sL (sF eI)) c81.2), some ((sL (sF eX)) l9), j49, some ((sF eX) line77), some ((sF eI) k78), none, none]) (E5 := [some ((sF (eL eI)) script1), some ((sL (sF eI)) c81.2), some ((sL (sF eX)) l9), j49, some ((sF eX) line77), some ((sF eI) k78), none, none]) (a := .v ((sF eX) ([32] : Wd))) (s := ((sF eX) ([32] : Wd))) (cx lx27x) pno_ok (pat_ok (ow (E1 := [some ((sF (eL eI)) script1), some ((sL (sF eI)) c79.2), some ((sL (sF eX)) l9), j49, some ((sF eX) line77), some ((sF eI) k78), none, none]) (E4 := [some ((sF (eL eI)) script1), some ((sL (sF eI)) c81.2), some ((sL (sF eX)) l9), j49, some ((sF eX) line77), some ((sF eI) k78), none, none]) (as := [.r 1, .v ((sF eI) 2)]) (cons_ok rfl (cons_ok rfl rfl)) (s_law_take h_c81) rfl rfl)) (sl_x (okO_some h_u82).1) rfl rfl) (g_add_x h_w83) rfl rfl rfl) (sl_ok (E1 := [some ((sF (eL eI)) script1), some ((sL (sF eI)) c81.2), some ((sL (sF eX)) l9), j49, some ((sF eX) line77), some ((sF eI) k78), none, none]) (E2 := [some ((sF (eL eI)) script1), some ((sL (sF eI)) c81.2), some ((sL (sF eX)) l9), j49, some ((sF eX) line77), some ((sF eI) k78), none, none]) (E3 := [some ((sF (eL eI)) script1), some ((sL (sF eI)) c84.2), some ((sL (sF eX)) l9), j49, some ((sF eX) line77), some ((sF eI) k78), none, none]) (E5 := [some ((sF (eL eI)) script1), some ((sL (sF eI)) c84.2), some ((sL (sF eX)) l9), j49, some ((sF eX) line77), some ((sF eI) k78), none, none]) (a := .v ((sF eX) ([32, 32] : Wd))) (s := ((sF eX) ([32, 32] : Wd))) (cx lx28x) pno_ok (pat_ok (ow (E1 := [some ((sF (eL eI)) script1), some ((sL (sF eI)) c81.2), some ((sL (sF eX)) l9), j49, some ((sF eX) line77), some ((sF eI) k78), none, none]) (E4 := [some ((sF (eL eI)) script1), some ((sL (sF eI)) c84.2), some ((sL (sF eX)) l9), j49, some ((sF eX) line77), some ((sF eI) k78), none, none]) (as := [.r 1, .v ((sF eI) 3)]) (cons_ok rfl (cons_ok rfl rfl)) (s_law_take h_c84) rfl rfl)) (sl_x (okO_some h_u85).1) rfl rfl) (g_add_x h_w86) rfl rfl rfl) (show 4 < 8 by decide) rfl) ?_
      exact Blk.fin ⟨_, .inl rfl, _, rfl⟩
    rintro s88 _ ⟨j89, rfl⟩
    refine Blk.env (E' := [some ((sF (eL eI)) script1), some ((sL (sF eI)) s88.1), some ((sL (sF eX)) l9), j49, some ((sF eX) s88.2), j89, none, none]) ?_ rfl
    refine Blk.assoc ?_
    refine Blk.nx (E1 := [some ((sF (eL eI)) script1), some ((sL (sF eI)) s88.1), some ((sL (sF eX)) l9), j49, some ((sF eX) s88.2), j89, some ((sL (sF (e2 eI eX))) []), none]) (st_set (E1 := [some ((sF (eL eI)) script1), some ((sL (sF eI)) s88.1), some ((sL (sF eX)) l9), j49, some ((sF eX) s88.2), j89, none, none]) (lst_ok (ss := []) rfl rfl (show 0 ≤ 1000 by decide)) (show 6 < 8 by decide) rfl) ?_
    refine Blk.assoc ?_
    refine Blk.nx (E1 := [some ((sF (eL eI)) script1), some ((sL (sF eI)) s88.1), some ((sL (sF eX)) l9), j49, some ((sF eX) s88.2), j89, some ((sL (sF (e2 eI eX))) []), some ((sF eI) 1)]) (st_set (E1 := [some ((sF (eL eI)) script1), some ((sL (sF eI)) s88.1), some ((sL (sF eX)) l9), j49, some ((sF eX) s88.2), j89, some ((sL (sF (e2 eI eX))) []), none]) rfl (show 7 < 8 by decide) rfl) ?_
    refine Blk.assoc ?_
    refine Blk.bind fun c90 h_c90 => ?_
    refine Blk.forO (E1 := [some ((sF (eL eI)) script1), some ((sL (sF eI)) s88.1), some ((sL (sF eX)) l9), j49, some ((sF eX) s88.2), j89, some ((sL (sF (e2 eI eX))) []), some ((sF eI) 1)]) (E2 := [some ((sF (eL eI)) script1), some ((sL (sF eI)) s88.1), some ((sL (sF eX)) l9), j49, some ((sF eX) s88.2), j89, some ((sL (sF (e2 eI eX))) []), some ((sF eI) 1)]) (as := [.v ((sL (sF eX)) c90)]) (ss := [((sL (sF eX)) c90)]) (P := (fun (s94 : ((List (Int × Wd)) × Int)) (e : Fw.Env) => ∃ (j95 : Option Sv), e = [some ((sF (eL eI)) script1), some ((sL (sF eI)) s88.1), some ((sL (sF eX)) l9), j95, some ((sF eX) s88.2), j89, some ((sL (sF (e2 eI eX))) s94.1), some ((sF eI) s94.2)])) (cons_ok (owk (as := [.r 4, .v ((sF eX) ([32] : Wd))]) (cons_ok rfl (cons_ok (cx lx27x) rfl)) (s_law_parted h_c90) rfl rfl) rfl) (it_o (e := eX)) rfl rfl ⟨_, rfl⟩ ?_ ?_
    · rintro word105 ⟨due103, column104⟩ _ ⟨j95, rfl⟩
      refine ⟨[some ((sF (eL eI)) script1), some ((sL (sF eI)) s88.1), some ((sL (sF eX)) l9), some ((sF eX) word105), some ((sF eX) s88.2), j89, some ((sL (sF (e2 eI eX))) due103), some ((sF eI) column104)], rfl, ?_⟩
      show Blk _ (pl_law_3 word105 due103 column104) _
      unfold pl_law_3 l_law_4
      refine Blk.last ?_
      refine Blk.assoc ?_
      refine Blk.bind fun l106 h_l106 => ?_
      refine Blk.nx (E1 := [some ((sF (eL eI)) script1), some ((sL (sF eI)) s88.1), some ((sL (sF eX)) l9), some ((sF eX) word105), some ((sF eX) s88.2), j89, some ((sL (sF (e2 eI eX))) l106), some ((sF eI) column104)]) (drop_next (me (E1 := [some ((sF (eL eI)) script1), some ((sL (sF eI)) s88.1), some ((sL (sF eX)) l9), some ((sF eX) word105), some ((sF eX) s88.2), j89, some ((sL (sF (e2 eI eX))) due103), some ((sF eI) column104)]) (E2 := [some ((sF (eL eI)) script1), some ((sL (sF eI)) s88.1), some ((sL (sF eX)) l9), some ((sF eX) word105), some ((sF eX) s88.2), j89, some ((sL (sF (e2 eI eX))) due103), some ((sF eI) column104)]) (E4 := [some ((sF (eL eI)) script1), some ((sL (sF eI)) s88.1), some ((sL (sF eX)) l9), some ((sF eX) word105), some ((sF eX) s88.2), j89, some ((sL (sF (e2 eI eX))) l106), some ((sF eI) column104)]) (a := .r 6) (as := [.v ((sF (e2 eI eX)) (column104, word105))]) rfl rfl (cons_ok (tup_ok (ss := [((sF eI) column104), ((sF eX) word105)]) (d := (e2 eI eX) (column104, word105)) (cons_ok rfl (cons_ok rfl rfl)) rfl rfl (show 2 ≤ 1000 by decide)) rfl) (g_app (e := (e2 eI eX)) h_l106) rfl rfl rfl)) ?_
      refine Blk.bind fun u107 h_u107 => ?_
      refine Blk.nx (E1 := [some ((sF (eL eI)) script1), some ((sL (sF eI)) s88.1), some ((sL (sF eX)) l9), some ((sF eX) word105), some ((sF eX) s88.2), j89, some ((sL (sF (e2 eI eX))) l106), some ((sF eI) ((column104 + (word105.length : Int)) + 1))]) (st_set (E1 := [some ((sF (eL eI)) script1), some ((sL (sF eI)) s88.1), some ((sL (sF eX)) l9), some ((sF eX) word105), some ((sF eX) s88.2), j89, some ((sL (sF (e2 eI eX))) l106), some ((sF eI) column104)]) (bnk (a := .v ((sF eI) (column104 + (word105.length : Int)))) (b := .v ((sF eI) 1)) (bnk (a := .r 7) (b := .v ((sF eI) (word105.length : Int))) rfl (clk (as := [.r 3]) (cons_ok rfl rfl) (g_len_x (okO_some h_u107).1) rfl rfl rfl) g_add rfl rfl rfl) rfl g_add rfl rfl rfl) (show 7 < 8 by decide) rfl) ?_
      exact Blk.fin ⟨_, .inl rfl, _, rfl⟩
    rintro s109 _ ⟨j110, rfl⟩
    refine Blk.env (E' := [some ((sF (eL eI)) script1), some ((sL (sF eI)) s88.1), some ((sL (sF eX)) l9), j110, some ((sF eX) s88.2), j89, some ((sL (sF (e2 eI eX))) s109.1), some ((sF eI) s109.2)]) ?_ rfl
    refine Blk.bind fun c111 h_c111 => ?_
    refine Blk.bind fun u112 h_u112 => ?_
    refine Blk.bind fun z115 h_z115 => ?_
    refine Blk.ret (s := ((sF eB) z115)) (E1 := [some ((sF (eL eI)) script1), some ((sL (sF eI)) s88.1), some ((sL (sF eX)) l9), j110, some ((sF eX) s88.2), j89, some ((sL (sF (e2 eI eX))) s109.1), some ((sF eI) s109.2)]) (ret_ret (and_s (x := decide (c111 = s109.1)) (E1 := [some ((sF (eL eI)) script1), some ((sL (sF eI)) s88.1), some ((sL (sF eX)) l9), j110, some ((sF eX) s88.2), j89, some ((sL (sF (e2 eI eX))) s109.1), some ((sF eI) s109.2)]) (E2 := [some ((sF (eL eI)) script1), some ((sL (sF eI)) s88.1), some ((sL (sF eX)) l9), j110, some ((sF eX) s88.2), j89, some ((sL (sF (e2 eI eX))) s109.1), some ((sF eI) s109.2)]) (owk (as := [.v ((sL (sF (e2 eI eX))) c111), .r 6]) (cons_ok (owk (as := [.r 4]) (cons_ok rfl rfl) (s_words_of h_c111) rfl rfl) (cons_ok rfl rfl)) (s_law_same (e := (eL (e2 eI eX))) (s := ((sL (sF (e2 eI eX))) c111)) (t := ((sL (sF (e2 eI eX))) s109.1)) (x := c111) (y := s109.1) dt_o dt_o (okO_some h_u112).1 (by decide)) rfl rfl) (fun hx => by rcases iteO h_z115 with ⟨hy, hz⟩ | ⟨hy, hz⟩ <;> first | (rw [hx] at hy; cases hy; done) | (obtain ⟨c113, h_c113, hz⟩ := bnd hz; obtain ⟨u114, h_u114, hz⟩ := bnd hz; cases hz; exact (owk (as := [.v ((sL (sF (e2 eI eX))) c113), .v ((sL (sF (e2 eI eX))) [(1, ([] : Wd))])]) (cons_ok (owk (as := [.v ((sF eX) ([] : Wd))]) (cons_ok (cx lx0x) rfl) (s_words_of h_c113) rfl rfl) (cons_ok (lst_ok (ss := [((sF (e2 eI eX)) (1, ([] : Wd)))]) (cons_ok (tup_ok (ss := [((sF eI) 1), ((sF eX) ([] : Wd))]) (d := (e2 eI eX) (1, ([] : Wd))) (cons_ok rfl (cons_ok (cx lx0x) rfl)) rfl rfl (show 2 ≤ 1000 by decide)) rfl) rfl (show 1 ≤ 1000 by decide)) rfl)) (s_law_same (e := (eL (e2 eI eX))) (s := ((sL (sF (e2 eI eX))) c113)) (t := ((sL (sF (e2 eI eX))) [(1, ([] : Wd))])) (x := c113) (y := [(1, ([] : Wd))]) dt_o dt_o (okO_some h_u114).1 (by decide)) rfl rfl))) (fun hx => by rcases iteO h_z115 with ⟨hy, hz⟩ | ⟨hy, hz⟩ <;> first | (rw [hx] at hy; cases hy; done) | (cases hz; exact ⟨rfl, rfl⟩)))) ?_
    exact Blk.fin ⟨_, .inl rfl, rfl⟩
  rintro v116 _ _ ⟨rfl, _, rfl⟩
  exact Blk.fin ⟨_, .inl rfl, rfl⟩
end K06
set_option Elab.async false
set_option linter.all false
set_option maxRecDepth 100000
set_option maxHeartbeats 1000000
namespace K06
open PySem PySem.Spec PyProof.Rows L2 Fw
theorem take_ok (L : List Int) (b : Int) (hb : 0 < b) : ∃ r L', p_law_take L b = some (r, L') ∧ 0 ≤ r ∧ r < b := by
  unfold p_law_take
  by_cases h : L = []
  · subst h
    exact ⟨0, [], rfl, Int.le_refl _, hb⟩
  · have h0 : ¬ ((L.length : Int) = 0) := by
      have := List.length_pos_iff.mpr h
      omega
    rw [if_neg (by simpa using h0), List.getLast?_eq_some_getLast h, obs, okb (pmod (by omega))]
    exact ⟨_, _, rfl, Int.fmod_nonneg_of_pos _ hb, Int.fmod_lt_of_pos _ hb⟩
theorem draws1 (k n : Int) (L : List Int) (hz : L.length < 16000000) : ∃ s, pl_law_draws_3 k L n = some s ∧ s.1.length ≤ L.length + 1 := by
  unfold pl_law_draws_3
  split
  · rw [cpb (by simp; omega)]
    exact ⟨_, rfl, by simp⟩
  · exact ⟨_, rfl, by simp⟩
theorem draws2 (c : Int) (L : List Int) (hz : L.length < 15000000) : ∃ s, pl_law_draws_4 c L = some s ∧ s.length ≤ L.length + 62 := by
  unfold pl_law_draws_4
  have key : ∀ (L1 : List Int) (n : Int), L1.length ≤ L.length + 2 → ∃ s, ((forO (fun (x : Int) (s : List Int × Int) => pl_law_draws_3 x s.1 s.2) (rgL 0 (60 : Int).toNat) (L1, n)).bind fun s => some s.1) = some s ∧ s.length ≤ L.length + 62 := fun L1 n h1 => by
    obtain ⟨s, h2, h3⟩ := forO_ix (fun i (s : List Int × Int) => s.1.length ≤ L.length + 2 + i) (f := fun (x : Int) (s : List Int × Int) => pl_law_draws_3 x s.1 s.2) (xs := rgL 0 (60 : Int).toNat) (s := (L1, n)) 0 (fun i x hx s hs => by
      have hi : i < 60 := by
        have := (List.getElem?_eq_some_iff.mp hx).1
        rw [rgL_len] at this
        exact this
      obtain ⟨s', h4, h5⟩ := draws1 x s.2 s.1 (by omega)
      exact ⟨s', h4, by omega⟩) (by simpa using h1)
    rw [h2]
    rw [rgL_len] at h3
    exact ⟨s.1, rfl, by have : (60 : Int).toNat = 60 := rfl; omega⟩
  split
  · rw [cpb (by simp; omega), cpb (by simp; omega)]
    simp only [obs]
    refine key _ _ ?_
    simp only [List.length_append, List.length_cons, List.length_nil]
    omega
  · simp only [obs]
    refine key _ _ ?_
    show L.length ≤ L.length + 2
    omega
theorem draws3 (k n : Int) (L : List Int) (hz : L.length < 16000000) : ∃ s, pl_law_draws_5 k L n = some s ∧ s.1.length ≤ L.length + 1 := by
  unfold pl_law_draws_5
  rw [cpb (by simp; omega)]
  exact ⟨_, rfl, by simp⟩
theorem draws_ok (ns : List Int) (h : ns.length ≤ 63) : ∃ L, p_law_draws ns = some L := by
  unfold p_law_draws
  obtain ⟨L, h1, h2⟩ := forO_ix (fun i (s : List Int) => s.length ≤ 62 * i) (f := fun (x : Int) (s : List Int) => pl_law_draws_4 x s) (xs := ns) (s := []) 0 (fun i x hx s hs => by
    have hi := (List.getElem?_eq_some_iff.mp hx).1
    obtain ⟨s', h4, h5⟩ := draws2 x s (by omega)
    exact ⟨s', h4, by omega⟩) (by simp)
  rw [h1, obs]
  have key : ∀ n : Int, ∀ m : Nat, m < 100000 → ∃ s, ((forO (fun (x : Int) (s : List Int × Int) => pl_law_draws_5 x s.1 s.2) (rgL 0 m) (L, n)).bind fun s => some s.1.reverse) = some s := fun n m hm => by
    obtain ⟨s, h2, h3⟩ := forO_ix (fun i (s : List Int × Int) => s.1.length ≤ 4000 + i) (f := fun (x : Int) (s : List Int × Int) => pl_law_draws_5 x s.1 s.2) (xs := rgL 0 m) (s := (L, n)) 0 (fun i x hx s hs => by
      have hi : i < m := by
        have := (List.getElem?_eq_some_iff.mp hx).1
        rw [rgL_len] at this
        exact this
      obtain ⟨s', h4, h5⟩ := draws3 x s.2 s.1 (by omega)
      exact ⟨s', h4, by omega⟩) (by simp; omega)
    rw [h2]
    exact ⟨_, rfl⟩
  split
  · rename_i hl
    have hp : 0 < ns.length := by have := of_decide_eq_true hl; omega
    obtain ⟨v, hv, _⟩ := atI_ex (xs := ns) (i := 0) (by omega) (by omega)
    rw [hv]
    simp only [obs]
    exact key _ _ (by decide)
  · simp only [obs]
    exact key _ _ (by decide)
end K06
set_option Elab.async false
set_option linter.all false
set_option maxRecDepth 100000
set_option maxHeartbeats 1000000
namespace K06
open PySem PySem.Spec PyProof.Rows L2 Fw Kx
abbrev letters : Wd := [97, 98, 99, 100, 101, 102, 103, 104, 105, 106, 107, 108, 109, 110, 111, 112, 113, 114, 115, 116, 117, 118, 119, 120, 121, 122]
abbrev digits : Wd := [48, 49, 50, 51, 52, 53, 54, 55, 56, 57]
/-- a name -/
def nameB (w : Wd) : Bool := (decide (1 ≤ (w.length : Int)) && decide ((w.length : Int) ≤ 12)) && List.all (List.map (fun c => decide (c ∈ letters)) w) id
theorem is_name_e {w : Wd} (h : w.length ≤ 1000000) : p_is_name w = some (nameB w) := by
  unfold p_is_name nameB
  rw [okb (okx h)]
  cases (decide (1 ≤ (w.length : Int)) && decide ((w.length : Int) ≤ 12)) with
  | false => rw [if_neg (by decide), obs]; rfl
  | true => rw [if_pos rfl, cpb (by rw [List.length_map]; omega), obs]; rfl
theorem law_name_e {w : Wd} (h : w.length ≤ 1000000) : p_law_name w = some (nameB w) := by
  unfold p_law_name nameB
  rw [okb (okx h)]
  cases (decide (1 ≤ (w.length : Int)) && decide ((w.length : Int) ≤ 12)) with
  | false => rw [if_neg (by decide), obs]; rfl
  | true =>
    rw [if_pos rfl, cpb (by rw [List.length_map]; exact Nat.le_trans (List.length_filter_le _ _) (by omega)), obs, filter_nil (fun c => decide (c ∈ letters))]; rfl
/-- two ways to ask for digits -/
theorem numeral_e {w : Wd} (h : w.length ≤ 1000000) : ∃ b, p_is_numeral w = some b ∧ p_law_numeral w = some b := by
  unfold p_is_numeral p_law_numeral
  have hf : ∀ p : Sg → Bool, (List.map (fun c => [c]) (List.filter p w)).length ≤ 16777216 := fun p => by rw [List.length_map]; exact Nat.le_trans (List.length_filter_le _ _) (by omega)
  have hm : ∀ p : Sg → Bool, (List.map p w).length ≤ 16777216 := fun p => by rw [List.length_map]; omega
  cases hc : (decide (1 ≤ (w.length : Int)) && decide ((w.length : Int) ≤ 9)) with
  | false =>
    refine ⟨false, ?_, ?_⟩
    · rw [okb (okx h), if_pos (by decide), obs, if_pos rfl]
    · rw [okb (okx h), if_pos (by decide), obs, if_pos rfl]
  | true =>
    have h1 : 1 ≤ (w.length : Int) := of_decide_eq_true (Bool.and_eq_true_iff.mp hc).1
    cases hd : List.all (List.map (fun c => decide (c ∈ digits)) w) id with
    | false =>
      refine ⟨false, ?_, ?_⟩
      · rw [okb (okx h), if_neg (by decide), cpb (hm _), hd, obs, if_pos (by decide)]
      · rw [okb (okx h), if_neg (by decide), cpb (hf _), filter_nil (fun c => decide (c ∈ digits)), hd, obs, if_pos (by decide)]
    | true =>
      obtain ⟨c, hc0, _⟩ := atI_ex (xs := w) (i := 0) (by omega) (by omega)
      by_cases e : w = [48]
      · refine ⟨true, ?_, ?_⟩
        · rw [okb (okx h), if_neg (by decide), cpb (hm _), hd, obs, if_neg (by decide), if_pos (decide_eq_true e), obs]
        · rw [okb (okx h), if_neg (by decide), cpb (hf _), filter_nil (fun c => decide (c ∈ digits)), hd, obs, if_neg (by decide), if_pos (decide_eq_true e), obs]
      · refine ⟨!decide ([c] = ([48] : Wd)), ?_, ?_⟩
        · rw [okb (okx h), if_neg (by decide), cpb (hm _), hd, obs, if_neg (by decide), if_neg (by simpa using e), okb (okx h), hc0, obs, obs]
        · rw [okb (okx h), if_neg (by decide), cpb (hf _), filter_nil (fun c => decide (c ∈ digits)), hd, obs, if_neg (by decide), if_neg (by simpa using e), okb (okx h), hc0, obs, obs]
/-! ### parts -/
theorem parted_go (c : Sg) : ∀ (x : Wd) (front : List Wd) (last : Wd), front.length + x.length ≤ 10000000 → last.length + x.length ≤ 10000000 →
    ∃ p ps, spl1 c x = p :: ps ∧ forO (fun (x24 : Sg) (s8 : List Wd) => pl_law_parted_1 [c] x24 s8) x (front ++ [last]) = some (front ++ ((last ++ p) :: ps))
  | [], front, last, _, _ => ⟨[], [], rfl, by rw [forO, List.append_nil]⟩
  | d :: r, front, last, h1, h2 => by
    simp only [List.length_cons] at h1 h2
    by_cases e : d = c
    · subst e
      obtain ⟨p, ps, e1, e2⟩ := parted_go d r (front ++ [last]) [] (by simp; omega) (by simp; omega)
      refine ⟨[], spl1 d r, by rw [spl1, if_pos rfl], ?_⟩
      rw [forO]
      have e3 : pl_law_parted_1 [d] d (front ++ [last]) = some (front ++ [last] ++ [[]]) := by
        unfold pl_law_parted_1
        rw [if_pos (decide_eq_true rfl), cpb (by simp; omega)]
      rw [e3, obs, e2, e1]
      simp
    · obtain ⟨p, ps, e1, e2⟩ := parted_go c r front (last ++ [d]) (by omega) (by simp; omega)
      refine ⟨d :: p, ps, by rw [spl1, if_neg e, e1], ?_⟩
      rw [forO]
      have e3 : pl_law_parted_1 [c] d (front ++ [last]) = some (front ++ [last ++ [d]]) := by
        unfold pl_law_parted_1
        rw [if_neg (by simpa using e), at_len, obs, cpb (by simp; omega), set_last, obs]
      rw [e3, obs, e2]
      simp
theorem parted_e {c : Sg} {x : Wd} (h : x.length ≤ 1000000) : p_law_parted x [c] = some (spl1 c x) := by
  unfold p_law_parted
  obtain ⟨p, ps, e1, e2⟩ := parted_go c x [] [] (by simp; omega) (by simp; omega)
  have e2 : forO (fun (x24 : Sg) (s8 : List Wd) => pl_law_parted_1 [c] x24 s8) x [([] : Wd)] = some (p :: ps) := e2
  rw [e2, obs, e1]
/-! ### written atoms -/
theorem names_e {ys : List Wd} (h : ∀ y ∈ ys, y.length ≤ 1000000) : cmpO (fun (one10 : Wd) => (p_is_name one10).bind fun c12 => some (some c12)) ys = some (ys.map nameB) :=
  cmpO_map fun y hy => by rw [is_name_e (h y hy), obs]
theorem bad_e {ys : List Wd} (h : ∀ y ∈ ys, y.length ≤ 1000000) : cmpO (fun (name13 : Wd) => (p_law_name name13).bind fun c15 => if (!c15) then (some (some name13)) else some none) ys = some (ys.filterMap fun y => if (!nameB y) = true then some y else none) :=
  cmpO_filterMap fun y hy => by
    rw [law_name_e (h y hy), obs]
    cases nameB y <;> rfl
theorem bad_nil (ys : List Wd) : decide (ys.filterMap (fun y => if (!nameB y) = true then some y else none) = []) = List.all (ys.map nameB) id := by
  induction ys with
  | nil => rfl
  | cons y ys ih =>
    cases h : nameB y with
    | true => simpa [h] using ih
    | false => simp [h]
/-- what both say of a word that has a bracket -/
def due (a : Wd) (r : Wd) : Option (Wd × List Wd) := if nameB a = true ∧ List.all ((spl1 44 r).map nameB) id = true then some (a, spl1 44 r) else none
theorem atom_none {w : Wd} (h : w.length ≤ 1000000) (hp : par1 40 w = none) : p_atom_of w = some none := by
  unfold p_atom_of parX
  rw [hp, okb (okx h)]
  simp only
  rw [if_pos (by decide), obs, if_pos rfl]
theorem atom_short {w a : Wd} (h : w.length ≤ 1000000) (hp : par1 40 w = some (a, [])) : p_atom_of w = some none := by
  unfold p_atom_of parX
  rw [hp, okb (okx h)]
  simp only
  rw [if_neg (by simp), if_pos (by simp), obs, obs, if_pos rfl]
theorem atom_last {w a r : Wd} {c : Sg} (h : w.length ≤ 1000000) (hp : par1 40 w = some (a, r ++ [c])) (hc : c ≠ 41) : p_atom_of w = some none := by
  have hx := (par1_spec 40 w _ hp).1
  have hl : (r ++ [c]).length ≤ w.length := by rw [hx]; simp; omega
  unfold p_atom_of parX
  rw [hp, okb (okx h)]
  simp only
  rw [if_neg (by simp), if_neg (by simp), okb (okx (Nat.le_trans hl h)), at_last, obs, obs, obs, if_pos (by simpa using hc)]
theorem atom_due {w a r : Wd} (h : w.length ≤ 1000000) (hp : par1 40 w = some (a, r ++ [41])) : p_atom_of w = some (due a r) := by
  have hx := (par1_spec 40 w _ hp).1
  have hl : (r ++ [41]).length ≤ w.length := by rw [hx]; simp; omega
  have ha : a.length ≤ w.length := by rw [hx]; simp
  have hr : r.length ≤ 1000000 := by have : (r ++ [(41 : Sg)]).length = r.length + 1 := by simp
                                     omega
  obtain ⟨s1, s2⟩ := spl_len 44 r
  unfold p_atom_of parX
  rw [hp, okb (okx h)]
  simp only
  rw [if_neg (by simp), if_neg (by simp), okb (okx (Nat.le_trans hl h)), at_last, obs, obs, obs, if_neg (by simp), okb (okx (Nat.le_trans hl h)), cut_m1, okb (okx hr), is_name_e (Nat.le_trans ha h), obs]
  rw [names_e fun y hy => Nat.le_trans (s2 y hy) hr, obs, cpb (by rw [List.length_map]; omega)]
  unfold due
  cases h1 : nameB a with
  | false => rw [if_pos (by decide), obs, if_pos rfl, if_neg (by simp)]
  | true =>
    rw [if_neg (by decide), obs]
    cases h2 : List.all ((spl1 44 r).map nameB) id with
    | false => rw [if_pos (by decide), if_neg (by simp)]
    | true => rw [if_neg (by decide), if_pos ⟨rfl, rfl⟩]
theorem short_due {a r : Wd} (h : a.length + r.length + 2 < 4) : due a r = none := by
  unfold due
  rw [if_neg]
  rintro ⟨h1, h2⟩
  match a, r, h with
  | [], _, _ => exact absurd h1 (by decide)
  | _ :: _, [], _ => exact absurd h2 (by decide)
  | _ :: _, _ :: _, h => exact absurd h (by simp; omega)
theorem written_short {w : Wd} (h : w.length < 4) : p_law_written w = some none := by
  unfold p_law_written
  rw [okb (okx (n := 4) (by omega) (by omega)), if_pos (by simp; omega), obs, if_pos rfl]
theorem last_ex {w : Wd} (h : w ≠ []) : ∃ r c, w = r ++ [c] := ⟨w.dropLast, w.getLast h, (List.dropLast_concat_getLast h).symm⟩
theorem par_none {c : Sg} : ∀ {x : Wd}, par1 c x = none → c ∉ x
  | [], _ => by simp
  | d :: r, h => by
    by_cases e : d = c
    · rw [par1, if_pos e] at h; cases h
    · rw [par1, if_neg e] at h
      have := par_none (Option.map_eq_none_iff.mp h)
      intro z
      rcases List.mem_cons.mp z with z | z
      · exact e z.symm
      · exact this z
theorem written_no {w r : Wd} {c : Sg} (h : w.length ≤ 1000000) (h4 : 4 ≤ w.length) (hw : w = r ++ [c]) (hn : c ≠ 41 ∨ (40 : Sg) ∉ w) : p_law_written w = some none := by
  unfold p_law_written
  rw [okb (okx h), if_neg (by simp; omega), okb (okx h), okb (okx h)]
  have e : atI w ((w.length : Int) - 1) = some c := by
    subst hw
    exact at_len
  rw [e, obs, obs, if_pos (by
    rcases hn with hn | hn
    · simp [hn]
    · simp [hn])]
theorem written_due {w a r : Wd} (h : w.length ≤ 1000000) (h4 : 4 ≤ w.length) (hp : par1 40 w = some (a, r ++ [41])) : p_law_written w = some (due a r) := by
  have hx := (par1_spec 40 w _ hp).1
  have hx : w = a ++ 40 :: (r ++ [41]) := hx
  have hw : w = (a ++ 40 :: r) ++ [41] := by rw [hx]; simp
  have hm : (40 : Sg) ∈ w := by rw [hx]; simp
  have hlen : w.length = a.length + r.length + 2 := by rw [hx]; simp; omega
  have e : atI w ((w.length : Int) - 1) = some 41 := by
    rw [hw]
    exact at_len
  have ei : idxO 40 w = some (a.length : Int) := by
    unfold idxO
    rw [hp]
    rfl
  have e1 : cutL w none (some (a.length : Int)) = a := by rw [cut_to (by omega), hx, List.take_left]
  have e2 : cutL w (some ((a.length : Int) + 1)) (some ((w.length : Int) - 1)) = r := by
    have q1 : (a.length : Int) + 1 = ((a.length + 1 : Nat) : Int) := by omega
    have q2 : (w.length : Int) - 1 = ((w.length - 1 : Nat) : Int) := by omega
    rw [q1, q2, cut_mid (by omega) (by omega)]
    have q3 : w.drop (a.length + 1) = r ++ [41] := by
      rw [hx, List.drop_append]
      simp
    rw [q3]
    have q4 : w.length - 1 - (a.length + 1) = r.length := by omega
    rw [q4, List.take_left]
  obtain ⟨s1, s2⟩ := spl_len 44 r
  unfold p_law_written
  rw [okb (okx h), if_neg (by simp; omega), okb (okx h), okb (okx h), e, obs, obs, if_neg (by simp [hm]), ei, obs, okb (okx h), okb (okx h), e2, parted_e (by omega), obs, okb (okx h), e1, law_name_e (by omega), obs]
  rw [bad_e fun y hy => by have := s2 y hy; omega, obs]
  have hl : ((spl1 44 r).filterMap fun y => if (!nameB y) = true then some y else none).length ≤ (spl1 44 r).length := List.length_filterMap_le ..
  rw [cpb (by omega), bad_nil]
  unfold due
  cases h1 : nameB a with
  | false => rw [if_pos (by decide), obs, if_pos rfl, if_neg (by simp)]
  | true =>
    rw [if_neg (by decide), obs]
    cases h2 : List.all ((spl1 44 r).map nameB) id with
    | false => rw [if_pos (by decide), if_neg (by simp)]
    | true => rw [if_neg (by decide), okb (okx h), if_pos ⟨rfl, rfl⟩]
theorem atoms_e {w : Wd} (h : w.length ≤ 1000000) : ∃ o, p_atom_of w = some o ∧ p_law_written w = some o ∧ szOk ((eO (e2 eX (eT eX))) o) = true := by
  have sz : ∀ a r, r.length ≤ 1000000 → szOk ((eO (e2 eX (eT eX))) (due a r)) = true := fun a r hr => by
    unfold due
    split
    · exact sz_os (sz_2 (by rw [szOk]) (sz_T (by show (spl1 44 r).length ≤ _; have := (spl_len 44 r).1; omega) fun x _ => by rw [szOk]))
    · exact sz_on
  have nn : szOk ((eO (e2 eX (eT eX))) none) = true := sz_on
  cases hp : par1 40 w with
  | none =>
    refine ⟨none, atom_none h hp, ?_, nn⟩
    by_cases h4 : w.length < 4
    · exact written_short h4
    · obtain ⟨r, c, e⟩ := last_ex (w := w) (by intro z; subst z; simp at h4)
      exact written_no h (by omega) e (.inr (par_none hp))
  | some p =>
    obtain ⟨a, q⟩ := p
    have hx := (par1_spec 40 w _ hp).1
    have hx : w = a ++ 40 :: q := hx
    by_cases hq : q = []
    · subst hq
      refine ⟨none, atom_short h hp, ?_, nn⟩
      by_cases h4 : w.length < 4
      · exact written_short h4
      · exact written_no h (by omega) hx (.inl (by decide))
    · obtain ⟨r, c, rfl⟩ := last_ex hq
      have hlen : w.length = a.length + r.length + 2 := by rw [hx]; simp; omega
      by_cases hc : c = 41
      · subst hc
        refine ⟨due a r, atom_due h hp, ?_, sz a r (by omega)⟩
        by_cases h4 : w.length < 4
        · rw [written_short h4, short_due (by omega)]
        · exact written_due h (by omega) hp
      · refine ⟨none, atom_last h hp hc, ?_, nn⟩
        by_cases h4 : w.length < 4
        · exact written_short h4
        · exact written_no h (by omega) (hx.trans (by simp : a ++ 40 :: (r ++ [c]) = (a ++ 40 :: r) ++ [c])) (.inl hc)
theorem turn_ok {w : Wd} (h : w.length ≤ 1000000) : pl_law_1 w = some (.nx ()) := by
  obtain ⟨b, n1, n2⟩ := numeral_e h
  obtain ⟨o, a1, a2, a3⟩ := atoms_e h
  unfold pl_law_1
  rw [is_name_e h, obs, law_name_e h, obs, okb sz_B, if_neg (by simp), n1, obs, n2, obs, okb sz_B, obs, if_neg (by simp), a1, obs, a2, obs, okb a3, if_neg (by simp)]
/-! ### words that are drawn -/
abbrev pool : List Wd := [([97] : Wd), ([114, 101, 100] : Wd), ([97, 110, 110] : Wd), ([122] : Wd), ([97, 98, 99, 100, 101, 102, 103, 104, 105, 106, 107, 108] : Wd), ([97, 98, 99, 100, 101, 102, 103, 104, 105, 106, 107, 108, 109] : Wd), ([48] : Wd), ([55] : Wd), ([49, 50] : Wd), ([49, 50, 51, 52, 53, 54, 55, 56, 57] : Wd), ([65] : Wd), ([95] : Wd), ([40] : Wd), ([41] : Wd), ([44] : Wd), ([] : Wd)]
theorem pick_ok (L : List Int) {items : List Wd} {n : Nat} (hne : items ≠ []) (h : ∀ y ∈ items, y.length ≤ n) : ∃ w L', p_law_pick L items = some (w, L') ∧ w.length ≤ n := by
  unfold p_law_pick
  obtain ⟨r, L', h1, h2, h3⟩ := take_ok L (items.length : Int) (by have := List.length_pos_iff.mpr hne; omega)
  obtain ⟨w, h4, h5⟩ := atI_ex h2 h3
  exact ⟨w, L', by rw [h1, obs, h4, obs], h w h5⟩
theorem picks_ok (L : List Int) {items : List Wd} {n : Nat} (hne : items ≠ []) (h : ∀ y ∈ items, y.length ≤ n) {f : Int → List Int → Option (Option Wd × List Int)} (hf : ∀ k s, f k s = (p_law_pick s items).bind fun c => some (some c.1, c.2)) (m : Nat) :
    ∃ l L', cmpS f (rgL 0 m) L = some (l, L') ∧ l.length = m ∧ ∀ w ∈ l, w.length ≤ n := by
  obtain ⟨l, L', h1, _, h2, h3⟩ := cmpS_all (fun _ => True) (fun w : Wd => w.length ≤ n) (f := f) (xs := rgL 0 m) (s := L) (fun x _ s _ => by
    obtain ⟨w, s', e1, e2⟩ := pick_ok s hne h
    exact ⟨w, s', by rw [hf, e1, obs], trivial, e2⟩) trivial
  exact ⟨l, L', h1, by rw [h2, rgL_len], h3⟩
theorem joined {a : Wd} {l : List Wd} {n m : Nat} (hl : l.length = m) (h : ∀ w ∈ l, w.length ≤ n) (hb : m * n + m * a.length ≤ 1000) : okJ a l = true ∧ (joinX a l).length ≤ m * n + m * a.length := by
  have h1 := lenAll_le h
  have h2 := join_len a l
  rw [hl] at h1 h2
  exact ⟨decide_eq_true (by rw [hl]; omega), by omega⟩
theorem pool_len : ∀ y ∈ pool, y.length ≤ 13 := by decide
theorem pool5_len : ∀ y ∈ cutL pool none (some 5), y.length ≤ 13 := by decide
theorem word_ok (L : List Int) : ∃ w L', p_law_word L = some (w, L') ∧ w.length ≤ 400 := by
  unfold p_law_word
  obtain ⟨k, L1, h1, h2, h3⟩ := take_ok L 4 (by omega)
  rw [h1, obs]
  simp only
  by_cases k0 : k = 0
  · rw [if_pos (decide_eq_true k0)]
    obtain ⟨r, L2, h4, h5, h6⟩ := take_ok L1 4 (by omega)
    obtain ⟨l, L3, h7, h8, h9⟩ := picks_ok L2 (items := pool) (by decide) pool_len (f := fun (k5 : Int) (s7 : List Int) => (p_law_pick s7 pool).bind fun c8 => some (some c8.1, c8.2)) (fun _ _ => rfl) (1 + r).toNat
    obtain ⟨j1, j2⟩ := joined (a := []) h8 h9 (by simp; omega)
    simp at j2
    refine ⟨joinX [] l, L3, ?_, by omega⟩
    rw [h4, obs]
    simp only
    rw [okb (s62 (by omega) (by omega)), h7, obs]
    simp only
    rw [cpb (by omega), okb j1]
  rw [if_neg (by simpa using k0)]
  by_cases k1 : k = 1
  · rw [if_pos (decide_eq_true k1)]
    obtain ⟨r, L2, h4, h5, h6⟩ := take_ok L1 11 (by omega)
    obtain ⟨l, L3, h7, h8, h9⟩ := picks_ok L2 (items := chs [48, 49, 50, 51, 52, 53, 54, 55, 56, 57, 48]) (n := 1) (by decide) (by decide) (f := fun (k14 : Int) (s17 : List Int) => (okO (okX ([48, 49, 50, 51, 52, 53, 54, 55, 56, 57, 48] : Wd)) ()).bind fun u18 => (p_law_pick s17 (chs ([48, 49, 50, 51, 52, 53, 54, 55, 56, 57, 48] : Wd))).bind fun c19 => some (some c19.1, c19.2)) (fun _ _ => okb (okx (n := 11) (by decide) (by decide))) (1 + r).toNat
    obtain ⟨j1, j2⟩ := joined (a := []) h8 h9 (by simp; omega)
    simp at j2
    refine ⟨joinX [] l, L3, ?_, by omega⟩
    rw [h4, obs]
    simp only
    rw [okb (s62 (by omega) (by omega)), h7, obs]
    simp only
    rw [cpb (by omega), okb j1]
  rw [if_neg (by simpa using k1)]
  by_cases k2 : k = 2
  · rw [if_pos (decide_eq_true k2)]
    obtain ⟨r, L2, h4, h5, h6⟩ := take_ok L1 14 (by omega)
    obtain ⟨l, L3, h7, h8, h9⟩ := picks_ok L2 (items := chs [97, 98, 109, 122]) (n := 1) (by decide) (by decide) (f := fun (k25 : Int) (s28 : List Int) => (okO (okX ([97, 98, 109, 122] : Wd)) ()).bind fun u29 => (p_law_pick s28 (chs ([97, 98, 109, 122] : Wd))).bind fun c30 => some (some c30.1, c30.2)) (fun _ _ => okb (okx (n := 4) (by decide) (by decide))) (1 + r).toNat
    obtain ⟨j1, j2⟩ := joined (a := []) h8 h9 (by simp; omega)
    simp at j2
    refine ⟨joinX [] l, L3, ?_, by omega⟩
    rw [h4, obs]
    simp only
    rw [okb (s62 (by omega) (by omega)), h7, obs]
    simp only
    rw [cpb (by omega), okb j1]
  rw [if_neg (by simpa using k2)]
  obtain ⟨r, L2, h4, h5, h6⟩ := take_ok L1 4 (by omega)
  obtain ⟨l, L3, h7, h8, h9⟩ := picks_ok L2 (items := cutL pool none (some 5)) (by decide) pool5_len (f := fun (k36 : Int) (s38 : List Int) => (p_law_pick s38 (cutL pool none (some 5))).bind fun c39 => some (some c39.1, c39.2)) (fun _ _ => rfl) (1 + r).toNat
  obtain ⟨j1, j2⟩ := joined (a := [44]) h8 h9 (by simp; omega)
  simp at j2
  obtain ⟨w1, L4, h10, h11⟩ := pick_ok L3 (items := cutL pool none (some 5)) (by decide) pool5_len
  have hz : (w1 ++ [40] ++ joinX [44] l ++ [41]).length ≤ 75 := by simp; omega
  have hp : 1 ≤ (w1 ++ [40] ++ joinX [44] l ++ [41]).length := by simp; omega
  rw [h4, obs]
  simp only
  rw [okb (s62 (by omega) (by omega)), h7, obs]
  simp only
  rw [cpb (by omega), h10, obs]
  simp only
  rw [cpb (by simp; omega), okb j1, cpb (by simp; omega), cpb (by omega), okb (okx (Nat.le_trans hz (by omega)) (n := 1000) (by omega))]
  revert hz hp
  generalize w1 ++ [40] ++ joinX [44] l ++ [41] = w
  intro hz hp
  obtain ⟨pl, L5, q1, q2, q3⟩ := take_ok L4 (w.length : Int) (by omega)
  obtain ⟨ch, L6, q4, q5, q6⟩ := take_ok L5 5 (by omega)
  rw [q1, obs]
  simp only
  rw [q4, obs]
  simp only
  obtain ⟨w2, q7, q8⟩ : ∃ w2, (if decide (ch = 0) then (okO (okX w) ()).bind fun u54 => (okO (okX w) ()).bind fun u55 => (capO ((cutL w none (some pl)) ++ (cutL w (some (pl + 1)) none))).bind fun w56 => some w56 else some w) = some w2 ∧ w2.length ≤ 150 := by
    by_cases c0 : ch = 0
    · have a1 := cut_len (xs := w) (lo := none) (hi := some pl)
      have a2 := cut_len (xs := w) (lo := some (pl + 1)) (hi := none)
      exact ⟨_, by rw [if_pos (decide_eq_true c0), okb (okx (n := 75) hz), okb (okx (n := 75) hz), cpb (by simp; omega)], by simp; omega⟩
    · exact ⟨w, by rw [if_neg (by simpa using c0)], by omega⟩
  rw [q7, obs]
  by_cases c1 : ch = 1
  · have a1 := cut_len (xs := w2) (lo := none) (hi := some pl)
    have a2 := cut_len (xs := w2) (lo := some pl) (hi := none)
    obtain ⟨w3, L7, q9, q10⟩ := pick_ok L6 (items := pool) (by decide) pool_len
    refine ⟨cutL w2 none (some pl) ++ w3 ++ cutL w2 (some pl) none, L7, ?_, ?_⟩
    · rw [if_pos (decide_eq_true c1), okb (okx (n := 150) q8), q9, obs]
      simp only
      rw [cpb (by simp; omega), okb (okx (n := 150) q8), cpb (by simp; omega), obs]
    · simp; omega
  · exact ⟨w2, L6, by rw [if_neg (by simpa using c1), obs], by omega⟩
/-! ### the line -/
theorem lay_same : pl_words_of_1 = pl_law_3 := by
  funext a b c
  unfold pl_words_of_1 pl_law_3
  rfl
theorem lay_ok {ws : List Wd} (h : ∀ w ∈ ws, w.length ≤ 100000) (hl : ws.length ≤ 100000) : ∃ s, forO (fun (x108 : Wd) (s94 : List (Int × Wd) × Int) => pl_law_3 x108 s94.1 s94.2) ws ([], 1) = some s ∧ s.1.length ≤ 100000 := by
  obtain ⟨s, h1, h2⟩ := forO_ix (fun i (s : List (Int × Wd) × Int) => s.1.length ≤ i ) (f := fun (x108 : Wd) (s94 : List (Int × Wd) × Int) => pl_law_3 x108 s94.1 s94.2) (xs := ws) (s := ([], 1)) 0 (fun i x hx s hs => by
    have hi : i < ws.length := (List.getElem?_eq_some_iff.mp hx).1
    refine ⟨(s.1 ++ [(s.2, x)], s.2 + (x.length : Int) + 1), ?_, ?_⟩
    · unfold pl_law_3
      rw [cpb (by simp; omega), okb (okx (h x (List.mem_of_getElem? hx)))]
    · simp; omega) (by simp)
  exact ⟨s, h1, by omega⟩
theorem words_nil : p_words_of [] = some [(1, [])] := by
  have e : spl1 32 ([] : Wd) = [[]] := rfl
  unfold p_words_of
  rw [okb (okx (n := 0) (by simp) (by omega)), e, forO, pl_words_of_1, cpb (by simp), okb (okx (n := 0) (by simp) (by omega)), obs, forO, obs]
  rfl
theorem lits_len : ∀ w ∈ [([] : Wd), ([40, 41] : Wd), ([97, 40, 41] : Wd), ([97, 40, 98, 41] : Wd), ([40, 98, 41] : Wd), ([97, 40, 98, 41, 99] : Wd), ([97, 40, 98, 41, 41] : Wd), ([97, 40, 40, 98, 41] : Wd)], w.length ≤ 400 := by decide
theorem law_p (ns : List Int) (h : ns.length ≤ 63) : p_law ns = some true := by
  unfold p_law
  obtain ⟨L, h1⟩ := draws_ok ns h
  obtain ⟨l, L1, h2, _, h3, h4⟩ := cmpS_all (fun _ => True) (fun w : Wd => w.length ≤ 400) (f := fun (k3 : Int) (s5 : List Int) => (p_law_word s5).bind fun c6 => some (some c6.1, c6.2)) (xs := rgL 0 (8 : Int).toNat) (s := L) (fun x _ s _ => by
    obtain ⟨w, s', e1, e2⟩ := word_ok s
    exact ⟨w, s', by rw [e1, obs], trivial, e2⟩) trivial
  rw [rgL_len] at h3
  have h3 : l.length = 8 := h3
  rw [h1, obs, h2, obs]
  simp only
  rw [cpb (by omega), cpb (by simp; omega)]
  have hw : ∀ w ∈ ([([] : Wd), ([40, 41] : Wd), ([97, 40, 41] : Wd), ([97, 40, 98, 41] : Wd), ([40, 98, 41] : Wd), ([97, 40, 98, 41, 99] : Wd), ([97, 40, 98, 41, 41] : Wd), ([97, 40, 40, 98, 41] : Wd)] ++ l), w.length ≤ 400 := fun w hw => by
    rcases List.mem_append.mp hw with hw | hw
    · exact lits_len w hw
    · exact h4 w hw
  have hne : ([([] : Wd), ([40, 41] : Wd), ([97, 40, 41] : Wd), ([97, 40, 98, 41] : Wd), ([40, 98, 41] : Wd), ([97, 40, 98, 41, 99] : Wd), ([97, 40, 98, 41, 41] : Wd), ([97, 40, 40, 98, 41] : Wd)] ++ l) ≠ [] := by simp
  revert hw hne
  generalize ([([] : Wd), ([40, 41] : Wd), ([97, 40, 41] : Wd), ([97, 40, 98, 41] : Wd), ([40, 98, 41] : Wd), ([97, 40, 98, 41, 99] : Wd), ([97, 40, 98, 41, 41] : Wd), ([97, 40, 40, 98, 41] : Wd)] ++ l) = ws
  intro hw hne
  obtain ⟨u, h5, _⟩ := forC_all (fun _ => True) (ρ := Bool) (f := fun (x47 : Wd) (s21 : Unit) => pl_law_1 x47) (xs := ws) (s := ()) (fun x hx s _ => ⟨(), turn_ok (Nat.le_trans (hw x hx) (by omega)), trivial⟩) trivial
  rw [h5, obs, ctO_nx]
  obtain ⟨n, L2, h6, h7, h8⟩ := take_ok L1 6 (by omega)
  rw [h6, obs]
  simp only
  rw [okb (s62 (by omega) (by omega))]
  obtain ⟨s, h9, h10⟩ := forO_ix (fun i (s : List Int × Wd) => s.2.length ≤ 500 * i) (f := fun (x87 : Int) (s61 : List Int × Wd) => pl_law_2 ws x87 s61.1 s61.2) (xs := rgL 0 n.toNat) (s := (L2, [])) 0 (fun i x hx s hs => by
    have hi : i < n.toNat := by
      have := (List.getElem?_eq_some_iff.mp hx).1
      rw [rgL_len] at this
      exact this
    obtain ⟨w, M1, e1, e2⟩ := pick_ok s.1 hne hw
    obtain ⟨a, M2, e3, _, _⟩ := take_ok M1 2 (by omega)
    obtain ⟨b, M3, e4, _, _⟩ := take_ok M2 3 (by omega)
    have a1 := cut_len (xs := ([32] : Wd)) (lo := none) (hi := some a)
    have a2 := cut_len (xs := ([32, 32] : Wd)) (lo := none) (hi := some b)
    have a1 : (cutL ([32] : Wd) none (some a)).length ≤ 1 := a1
    have a2 : (cutL ([32, 32] : Wd) none (some b)).length ≤ 2 := a2
    refine ⟨(M3, s.2 ++ w ++ cutL ([32] : Wd) none (some a) ++ cutL ([32, 32] : Wd) none (some b)), ?_, ?_⟩
    · unfold pl_law_2
      rw [e1, obs]
      simp only
      rw [cpb (by simp; omega), e3, obs]
      simp only
      rw [okb (okx (n := 1) (by simp) (by omega)), cpb (by simp; omega), e4, obs]
      simp only
      rw [okb (okx (n := 2) (by simp) (by omega)), cpb (by simp; omega)]
    · simp; omega) (by simp)
  rw [rgL_len] at h10
  rw [h9, obs]
  have hline : s.2.length ≤ 3000 := by omega
  obtain ⟨s1, s2⟩ := spl_len 32 s.2
  obtain ⟨t, h11, h12⟩ := lay_ok (ws := spl1 32 s.2) (fun w hw => by have := s2 w hw; omega) (by omega)
  have e : p_words_of s.2 = some t.1 := by
    unfold p_words_of
    rw [okb (okx (n := 3000) hline (by omega)), lay_same, h11, obs]
  rw [parted_e (by omega), obs, h11, obs, e, obs]
  have z : ∀ xs : List (Int × Wd), xs.length ≤ 100000 → szOk ((eL (e2 eI eX)) xs) = true := fun xs hx => sz_L (by omega) fun x _ => sz_2 sz_I (by rw [szOk])
  rw [okb (z _ h12), if_pos (decide_eq_true rfl), words_nil, obs, okb (z _ (by simp)), decide_eq_true rfl, obs]
theorem law_true (ns : List Int) (h : ns.length ≤ 63) (hb : ∀ z ∈ ns, Builtin.Int.intBits z ≤ 1048576) : ∃ e, f_law [.fz (.lst (ns.map .int))] = .ok (.fz (.bl true), e) := ⟨_, s_law (law_p ns h)⟩
end K06
set_option Elab.async false
set_option linter.all false
set_option maxRecDepth 100000
set_option maxHeartbeats 0
namespace K06
open PySem PySem.Spec PyProof.Rows L2 Fw
def d_words_of : He.DefD := ⟨("words_of", none), "words_of", "words_of", defArgs st_words_of, defBody st_words_of, defScope st_words_of, [], []⟩
def d_is_name : He.DefD := ⟨("is_name", none), "is_name", "is_name", defArgs st_is_name, defBody st_is_name, defScope st_is_name, [], []⟩
def d_is_numeral : He.DefD := ⟨("is_numeral", none), "is_numeral", "is_numeral", defArgs st_is_numeral, defBody st_is_numeral, defScope st_is_numeral, [], []⟩
def d_atom_of : He.DefD := ⟨("atom_of", none), "atom_of", "atom_of", defArgs st_atom_of, defBody st_atom_of, defScope st_atom_of, [], []⟩
def d__law_draws : He.DefD := ⟨("_law_draws", none), "_law_draws", "_law_draws", defArgs st__law_draws, defBody st__law_draws, defScope st__law_draws, [], []⟩
def d__law_take : He.DefD := ⟨("_law_take", none), "_law_take", "_law_take", defArgs st__law_take, defBody st__law_take, defScope st__law_take, [], []⟩
def d__law_same : He.DefD := ⟨("_law_same", none), "_law_same", "_law_same", defArgs st__law_same, defBody st__law_same, defScope st__law_same, [], []⟩
def d__law_pick : He.DefD := ⟨("_law_pick", none), "_law_pick", "_law_pick", defArgs st__law_pick, defBody st__law_pick, defScope st__law_pick, [], []⟩
def d__law_name : He.DefD := ⟨("_law_name", none), "_law_name", "_law_name", defArgs st__law_name, defBody st__law_name, defScope st__law_name, [], []⟩
def d__law_numeral : He.DefD := ⟨("_law_numeral", none), "_law_numeral", "_law_numeral", defArgs st__law_numeral, defBody st__law_numeral, defScope st__law_numeral, [], []⟩
def d__law_parted : He.DefD := ⟨("_law_parted", none), "_law_parted", "_law_parted", defArgs st__law_parted, defBody st__law_parted, defScope st__law_parted, [], []⟩
def d__law_written : He.DefD := ⟨("_law_written", none), "_law_written", "_law_written", defArgs st__law_written, defBody st__law_written, defScope st__law_written, [], []⟩
def d__law_word : He.DefD := ⟨("_law_word", none), "_law_word", "_law_word", defArgs st__law_word, defBody st__law_word, defScope st__law_word, [], []⟩
def d_law : He.DefD := ⟨("law", none), "law", "law", defArgs st_law, defBody st_law, defScope st_law, [], []⟩
def fns : List He.DefD := [d_words_of, d_is_name, d_is_numeral, d_atom_of, d__law_draws, d__law_take, d__law_same, d__law_pick, d__law_name, d__law_numeral, d__law_parted, d__law_written, d__law_word, d_law]
def fas : List He.Fa := [.glo "words_of", .glo "is_name", .glo "is_numeral", .glo "atom_of", .glo "_law_draws", .glo "_law_take", .glo "_law_same", .glo "_law_pick", .glo "_law_name", .glo "_law_numeral", .glo "_law_parted", .glo "_law_written", .glo "_law_word", .glo "law", .str "DIGITS" "0123456789", .str "LETTERS" "abcdefghijklmnopqrstuvwxyz", .int "MOST_DIGITS" 9, .int "MOST_LETTERS" 12, .free "abs", .free "all", .free "bool", .free "int", .free "isinstance", .free "len", .free "list", .free "range", .free "reversed", .free "str", .free "tuple"]
abbrev Rr : PySem.W.OpenRow := PySem.W.OpenLaw.row PySem.Challenge.rw_fewrules_k06_words_names_and_atoms
abbrev hk : PySem.W.Hook := He.hookD 4 fas fns
def ob (s : PySem.W.SharedT) : He.AlD := He.obsDG 4 fas fns (HandSHeadRun.getT s)
theorem ob_eq (s : PySem.W.SharedT) : ob s = hk.obs s.abs := He.obsDG_eq (HandSHeadRun.getT_eq s)
theorem run (w : World) : HandSHeadRun.RunEq Rr (PySem.W.view Rr.prog [19]) hk ob 4000 ["words_of", "is_name", "is_numeral", "atom_of", "_law_draws", "_law_take", "_law_same", "_law_pick", "_law_name", "_law_numeral", "_law_parted", "_law_written", "_law_word", "LETTERS", "DIGITS", "MOST_LETTERS", "MOST_DIGITS"] w := by
  intro os
  kernel_rfl
theorem facts {P : Program} {w : World} {K : PySem.W.Frag} {h : Heap} {mg : Str → Option Value} {f : Addr} (X : K.In h) (G : h.Ns mainGlobals mg) (hfa : mg ("law" : Str) = some (.ref f)) (c : He.SaysD fas fns K) :
    ∃ fd : FuncData, (∀ (s : Shared) (v : Value), BindsTo s fd ⟨[v], []⟩ [("script", v)]) ∧ ∀ base : Heap, K.In base → base.Ns mainGlobals mg → FnOk P w K mg base (L2.CX P w) 42 f fd ["script"] (FSp ⟨P, w, K, fun _ => 0⟩ f_law) := by
  obtain ⟨fd_words_of, F_words_of⟩ := c.def_ 0 (d := d_words_of) rfl
  obtain ⟨fd_is_name, F_is_name⟩ := c.def_ 1 (d := d_is_name) rfl
  obtain ⟨fd_is_numeral, F_is_numeral⟩ := c.def_ 2 (d := d_is_numeral) rfl
  obtain ⟨fd_atom_of, F_atom_of⟩ := c.def_ 3 (d := d_atom_of) rfl
  obtain ⟨fd__law_draws, F__law_draws⟩ := c.def_ 4 (d := d__law_draws) rfl
  obtain ⟨fd__law_take, F__law_take⟩ := c.def_ 5 (d := d__law_take) rfl
  obtain ⟨fd__law_same, F__law_same⟩ := c.def_ 6 (d := d__law_same) rfl
  obtain ⟨fd__law_pick, F__law_pick⟩ := c.def_ 7 (d := d__law_pick) rfl
  obtain ⟨fd__law_name, F__law_name⟩ := c.def_ 8 (d := d__law_name) rfl
  obtain ⟨fd__law_numeral, F__law_numeral⟩ := c.def_ 9 (d := d__law_numeral) rfl
  obtain ⟨fd__law_parted, F__law_parted⟩ := c.def_ 10 (d := d__law_parted) rfl
  obtain ⟨fd__law_written, F__law_written⟩ := c.def_ 11 (d := d__law_written) rfl
  obtain ⟨fd__law_word, F__law_word⟩ := c.def_ 12 (d := d__law_word) rfl
  obtain ⟨fd_law, F_law⟩ := c.def_ 13 (d := d_law) rfl
  have g_words_of := He.glo_ok X G (c.fact 0 (f := .glo "words_of") rfl)
  have g_is_name := He.glo_ok X G (c.fact 1 (f := .glo "is_name") rfl)
  have g_is_numeral := He.glo_ok X G (c.fact 2 (f := .glo "is_numeral") rfl)
  have g_atom_of := He.glo_ok X G (c.fact 3 (f := .glo "atom_of") rfl)
  have g__law_draws := He.glo_ok X G (c.fact 4 (f := .glo "_law_draws") rfl)
  have g__law_take := He.glo_ok X G (c.fact 5 (f := .glo "_law_take") rfl)
  have g__law_same := He.glo_ok X G (c.fact 6 (f := .glo "_law_same") rfl)
  have g__law_pick := He.glo_ok X G (c.fact 7 (f := .glo "_law_pick") rfl)
  have g__law_name := He.glo_ok X G (c.fact 8 (f := .glo "_law_name") rfl)
  have g__law_numeral := He.glo_ok X G (c.fact 9 (f := .glo "_law_numeral") rfl)
  have g__law_parted := He.glo_ok X G (c.fact 10 (f := .glo "_law_parted") rfl)
  have g__law_written := He.glo_ok X G (c.fact 11 (f := .glo "_law_written") rfl)
  have g__law_word := He.glo_ok X G (c.fact 12 (f := .glo "_law_word") rfl)
  have g_law := He.glo_ok X G (c.fact 13 (f := .glo "law") rfl)
  have m_DIGITS := He.str_ok X G (c.fact 14 (f := .str "DIGITS" "0123456789") rfl)
  have m_LETTERS := He.str_ok X G (c.fact 15 (f := .str "LETTERS" "abcdefghijklmnopqrstuvwxyz") rfl)
  have m_MOST_DIGITS := He.int_ok X G (c.fact 16 (f := .int "MOST_DIGITS" 9) rfl)
  have m_MOST_LETTERS := He.int_ok X G (c.fact 17 (f := .int "MOST_LETTERS" 12) rfl)
  have m_abs := He.free_ok X G (c.fact 18 (f := .free "abs") rfl)
  have m_all := He.free_ok X G (c.fact 19 (f := .free "all") rfl)
  have m_bool := He.free_ok X G (c.fact 20 (f := .free "bool") rfl)
  have m_int := He.free_ok X G (c.fact 21 (f := .free "int") rfl)
  have m_isinstance := He.free_ok X G (c.fact 22 (f := .free "isinstance") rfl)
  have m_len := He.free_ok X G (c.fact 23 (f := .free "len") rfl)
  have m_list := He.free_ok X G (c.fact 24 (f := .free "list") rfl)
  have m_range := He.free_ok X G (c.fact 25 (f := .free "range") rfl)
  have m_reversed := He.free_ok X G (c.fact 26 (f := .free "reversed") rfl)
  have m_str := He.free_ok X G (c.fact 27 (f := .free "str") rfl)
  have m_tuple := He.free_ok X G (c.fact 28 (f := .free "tuple") rfl)
  have e := hfa.symm.trans g_law
  cases e
  have b := FunD.bindsA (ps := ["script"]) F_law fun _ _ _ _ _ _ us hl => match us, hl with | [_], _ => rfl
  refine ⟨fd_law, fun s v => b s [v] rfl, fun base _ _ => ?_⟩
  have o_words_of : OwnD P w K mg base (fun _ => 0) "words_of" 1 f_words_of := ok_words_of F_words_of m_len  g_words_of
  have o_is_name : OwnD P w K mg base (fun _ => 0) "is_name" 1 f_is_name := ok_is_name F_is_name m_LETTERS m_MOST_LETTERS m_all m_len  g_is_name
  have o_is_numeral : OwnD P w K mg base (fun _ => 0) "is_numeral" 1 f_is_numeral := ok_is_numeral F_is_numeral m_DIGITS m_MOST_DIGITS m_all m_len  g_is_numeral
  have o_atom_of : OwnD P w K mg base (fun _ => 0) "atom_of" 2 f_atom_of := ok_atom_of F_atom_of m_all m_tuple o_is_name g_atom_of
  have o__law_draws : OwnD P w K mg base (fun _ => 0) "_law_draws" 1 f__law_draws := ok__law_draws F__law_draws m_abs m_int m_len m_list m_range m_reversed  g__law_draws
  have o__law_take : OwnD P w K mg base (fun _ => 0) "_law_take" 1 f__law_take := ok__law_take F__law_take m_int m_len  g__law_take
  have o__law_same : OwnD P w K mg base (fun _ => 0) "_law_same" 41 (f__law_same 40) := ok__law_same F__law_same m_bool m_int m_isinstance m_len m_list m_range m_str m_tuple  g__law_same
  have o__law_pick : OwnD P w K mg base (fun _ => 0) "_law_pick" 2 f__law_pick := ok__law_pick F__law_pick m_len o__law_take g__law_pick
  have o__law_name : OwnD P w K mg base (fun _ => 0) "_law_name" 1 f__law_name := ok__law_name F__law_name m_len  g__law_name
  have o__law_numeral : OwnD P w K mg base (fun _ => 0) "_law_numeral" 1 f__law_numeral := ok__law_numeral F__law_numeral m_len  g__law_numeral
  have o__law_parted : OwnD P w K mg base (fun _ => 0) "_law_parted" 1 f__law_parted := ok__law_parted F__law_parted m_len  g__law_parted
  have o__law_written : OwnD P w K mg base (fun _ => 0) "_law_written" 2 f__law_written := ok__law_written F__law_written m_len m_tuple o__law_name o__law_parted g__law_written
  have o__law_word : OwnD P w K mg base (fun _ => 0) "_law_word" 3 f__law_word := ok__law_word F__law_word m_len m_list m_range o__law_pick o__law_take g__law_word
  exact fk_law F_law m_len m_range o__law_draws o__law_name o__law_numeral o__law_parted o__law_pick o__law_same o__law_take o__law_word o__law_written o_atom_of o_is_name o_is_numeral o_words_of
end K06
set_option Elab.async false
set_option linter.all false
set_option maxRecDepth 100000
set_option maxHeartbeats 0
open PySem PySem.W PySem.Calls PyProof.Rows
theorem PySem.Challenge.cw_fewrules_k06_words_names_and_atoms_holds : PySem.Challenge.rw_fewrules_k06_words_names_and_atoms.Holds := by
  w_on; o_law
  refine HandSHeadRun.head_any (r := OpenLaw.row PySem.Challenge.rw_fewrules_k06_words_names_and_atoms) (q := view (OpenLaw.row PySem.Challenge.rw_fewrules_k06_words_names_and_atoms).prog [19]) (H := K06.hk) (ob := K06.ob) (M := 4000) (loose := ["words_of", "is_name", "is_numeral", "atom_of", "_law_draws", "_law_take", "_law_same", "_law_pick", "_law_name", "_law_numeral", "_law_parted", "_law_written", "_law_word", "LETTERS", "DIGITS", "MOST_LETTERS", "MOST_DIGITS"]) (d := HandSHeadRun.topDef (OpenLaw.row PySem.Challenge.rw_fewrules_k06_words_names_and_atoms).prog 19) (kwd := []) K06.ob_eq
    (by kernel_rfl) (fun s => by kernel_rfl) K06.run (by kernel_rfl) (by kernel_rfl) (by kernel_rfl) (by rfl) (by first | assumption | decide +kernel) (by decide +kernel) ⟨rfl, rfl, rfl, rfl, rfl, by decide +kernel⟩ ?hw ?hc
  case hw => w_witness2
  case hc =>
    refine LamX.walk_ofTsE (l := PySem.Challenge.rw_fewrules_k06_words_names_and_atoms) (n := 63) (k := 42) (x := "script") (CX := L2.CX PySem.Challenge.pw_fewrules_k06_words_names_and_atoms) rfl (by decide) (by kernel_rfl) ⟨rfl, by decide, by decide⟩ ?F (fun _ _ _ _ _ h => Fw.cx_false h)
    intro w mg fa h Y G hmg0
    obtain ⟨K, KX, c⟩ := Y
    have hmg : mg ("law" : PySem.Str) = some (.ref fa) := by
      have e : (HandSHeadRun.topDef (OpenLaw.row PySem.Challenge.rw_fewrules_k06_words_names_and_atoms).prog 19).name = ("law" : PySem.Str) := by kernel_rfl
      rw [← e]
      exact hmg0
    obtain ⟨fd, hb, hF⟩ := K06.facts (P := (PySem.Challenge.rw_fewrules_k06_words_names_and_atoms).prog) (w := w) KX G hmg c
    exact ⟨K, KX, fd, [], Fw.FSp ⟨_, w, K, fun _ => 0⟩ K06.f_law, (by intro p hp; cases hp), (by intro p hp; cases hp), (by intro p hp; cases hp), hb, fun H a ns hl hbits _ hS => Fw.law_sp (K06.law_true ns hl hbits) hS, fun base h1 h2 _ => hF base h1 h2⟩
