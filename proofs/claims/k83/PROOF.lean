import PyProof.Rows.All
import Wide.All
import OpenK.AllK
import Wide.FinOn
import HandS.ForMost
import HandS.ForExc
import HandS.DictComp
import HandS.Style
import HandS.Deep
import KE.KDictCopyH
import KE.KDictLaw
import HandS.IsInst
import HandS.ReplaceLit
import HandS.TryOnly
import KE.KExcSuper
import PySem.Challenge.RW_gapsalike_k83_whole_histories
set_option Elab.async false
set_option linter.all false
set_option maxRecDepth 100000
set_option maxHeartbeats 4000000
/-! The typed walk: readings related to plain Lean functions. -/
namespace Tw
open PySem L2

abbrev line : Nat := 16777216

/-! ### heaps that grow -/
def Ex (H H' : Hp) : Prop := ∀ a o, H a = some o → H' a = some o
theorem Ex.refl (H : Hp) : Ex H H := fun _ _ h => h
theorem Ex.trans {H H1 H2 : Hp} (a : Ex H H1) (b : Ex H1 H2) : Ex H H2 := fun x o h => b x o (a x o h)
theorem Ex.new {H : Hp} {p : Addr} {o : HO} (h : H p = none) : Ex H (upd H p o) := fun a u e => by
  rw [upd_ne (ne_of_none e h)]
  exact e
theorem Ex.none {H H' : Hp} (e : Ex H H') {p : Addr} (h : H' p = none) : H p = none := by
  cases q : H p with
  | none => rfl
  | some o =>
    rw [e p o q] at h
    cases h
theorem Ex.rd {H H' : Hp} {a : Addr} {u : HO} (e : Ex H H') (h : Rd H a u) : Rd H' a u := by
  rcases h with h | ⟨o, h⟩
  · exact .inl (e a _ h)
  · exact .inr ⟨o, e a _ h⟩
theorem Ex.sqT {K : PySem.W.Frag} {H H' : Hp} {a : Addr} {xs : List V} (e : Ex H H') (h : SqT K H a xs) : SqT K H' a xs := by
  rcases h with h | h
  · exact .inl (e.rd h)
  · exact .inr h
theorem Ex.sqL {K : PySem.W.Frag} {H H' : Hp} {a : Addr} {xs : List V} (e : Ex H H') (h : SqL K H a xs) : SqL K H' a xs := by
  rcases h with h | h
  · exact .inl (e.rd h)
  · exact .inr h

/-! ### how data lies -/
class Rep (K : PySem.W.Frag) (α : Type) where
  rp : Hp → α → V → Prop
  mono : ∀ {F F' : Hp} {x : α} {v : V}, Ex F F' → rp F x v → rp F' x v

/-- a text, by its codes -/
abbrev Tx := List Nat
def tS (x : Tx) : Str := ⟨x.toArray⟩
@[simp] theorem tS_len (x : Tx) : (tS x).length = x.length := by simp [tS, Str.length]
theorem tS_cps (x : Tx) : (tS x).cps.toList = x := by simp [tS]
theorem tS_inj {x y : Tx} (h : tS x = tS y) : x = y := by
  have := congrArg (fun s : Str => s.cps.toList) h
  simpa [tS] using this
theorem tS_app (x y : Tx) : tS x ++ tS y = tS (x ++ y) := by
  show Str.mk (x.toArray ++ y.toArray) = Str.mk (x ++ y).toArray
  simp
theorem tS_of (s : Str) : tS s.cps.toList = s := by
  cases s
  simp [tS]

def RpAll {α : Type} (r : α → V → Prop) : List α → List V → Prop
  | [], [] => True
  | x :: xs, v :: vs => r x v ∧ RpAll r xs vs
  | _, _ => False
theorem RpAll.length {α : Type} {r : α → V → Prop} : ∀ {xs : List α} {vs : List V}, RpAll r xs vs → xs.length = vs.length
  | [], [], _ => rfl
  | _ :: xs, _ :: vs, h => by rw [List.length_cons, List.length_cons, RpAll.length h.2]
  | [], _ :: _, h => h.elim
  | _ :: _, [], h => h.elim
theorem RpAll.imp {α : Type} {r r' : α → V → Prop} (f : ∀ x v, r x v → r' x v) : ∀ {xs : List α} {vs : List V}, RpAll r xs vs → RpAll r' xs vs
  | [], [], _ => trivial
  | _ :: _, _ :: _, h => ⟨f _ _ h.1, RpAll.imp f h.2⟩
  | [], _ :: _, h => h.elim
  | _ :: _, [], h => h.elim
theorem RpAll.app {α : Type} {r : α → V → Prop} : ∀ {xs ys : List α} {vs ws : List V}, RpAll r xs vs → RpAll r ys ws → RpAll r (xs ++ ys) (vs ++ ws)
  | [], _, [], _, _, h => h
  | _ :: _, _, _ :: _, _, h, h' => ⟨h.1, RpAll.app h.2 h'⟩
  | [], _, _ :: _, _, h, _ => h.elim
  | _ :: _, _, [], _, h, _ => h.elim
theorem RpAll.get {α : Type} {r : α → V → Prop} : ∀ {xs : List α} {vs : List V} {i : Nat} {v : V}, RpAll r xs vs → vs[i]? = some v → ∃ x, xs[i]? = some x ∧ r x v
  | [], [], _, _, _, e => by simp at e
  | x :: _, w :: _, 0, v, h, e => by
    have e' : w = v := by simpa using e
    subst e'
    exact ⟨x, rfl, h.1⟩
  | _ :: xs, _ :: vs, i + 1, v, h, e => by
    obtain ⟨x, h1, h2⟩ := RpAll.get (xs := xs) (vs := vs) (i := i) (v := v) h.2 (by simpa using e)
    exact ⟨x, by simpa using h1, h2⟩
  | [], _ :: _, _, _, h, _ => h.elim
  | _ :: _, [], _, _, h, _ => h.elim
theorem RpAll.get' {α : Type} {r : α → V → Prop} {xs : List α} {vs : List V} {i : Nat} {x : α} (h : RpAll r xs vs) (e : xs[i]? = some x) : ∃ v, vs[i]? = some v ∧ r x v := by
  have hi : i < vs.length := by
    rw [← h.length]
    exact (List.getElem?_eq_some_iff.mp e).1
  obtain ⟨y, h1, h2⟩ := h.get (List.getElem?_eq_getElem hi)
  rw [e] at h1
  cases h1
  exact ⟨_, List.getElem?_eq_getElem hi, h2⟩
theorem RpAll.drop {α : Type} {r : α → V → Prop} : ∀ {xs : List α} {vs : List V} (n : Nat), RpAll r xs vs → RpAll r (xs.drop n) (vs.drop n)
  | _, _, 0, h => h
  | [], [], _ + 1, _ => trivial
  | _ :: _, _ :: _, n + 1, h => RpAll.drop n h.2
  | [], _ :: _, _ + 1, h => h.elim
  | _ :: _, [], _ + 1, h => h.elim
theorem RpAll.take {α : Type} {r : α → V → Prop} : ∀ {xs : List α} {vs : List V} (n : Nat), RpAll r xs vs → RpAll r (xs.take n) (vs.take n)
  | _, _, 0, _ => trivial
  | [], [], _ + 1, _ => trivial
  | _ :: _, _ :: _, n + 1, h => ⟨h.1, RpAll.take n h.2⟩
  | [], _ :: _, _ + 1, h => h.elim
  | _ :: _, [], _ + 1, h => h.elim
theorem RpAll.set {α : Type} {r : α → V → Prop} {x : α} {v : V} (hx : r x v) : ∀ {xs : List α} {vs : List V} (n : Nat), RpAll r xs vs → RpAll r (xs.set n x) (vs.set n v)
  | [], [], _, _ => trivial
  | _ :: _, _ :: _, 0, h => ⟨hx, h.2⟩
  | _ :: _, _ :: _, n + 1, h => ⟨h.1, RpAll.set hx n h.2⟩
  | [], _ :: _, _, h => h.elim
  | _ :: _, [], _, h => h.elim
theorem RpAll.rep {α : Type} {r : α → V → Prop} {xs : List α} {vs : List V} (h : RpAll r xs vs) : ∀ n : Nat, RpAll r (List.replicate n xs).flatten (List.replicate n vs).flatten
  | 0 => trivial
  | n + 1 => by
    rw [List.replicate_succ, List.replicate_succ, List.flatten_cons, List.flatten_cons]
    exact h.app (RpAll.rep h n)

section
variable {K : PySem.W.Frag}
instance : Rep K Int := ⟨fun _ x v => v = .int x, fun _ h => h⟩
instance : Rep K Bool := ⟨fun _ x v => v = .bl x, fun _ h => h⟩
instance : Rep K Unit := ⟨fun _ _ v => v = .non, fun _ h => h⟩
instance : Rep K Tx := ⟨fun _ x v => v = .str (tS x), fun _ h => h⟩
instance {α : Type} [Rep K α] : Rep K (Option α) := ⟨fun F x v => match x with | none => v = .non | some y => Rep.rp K F y v, fun {F F' x v} e h => by
  cases x with
  | none => exact h
  | some y => exact Rep.mono e h⟩
instance {α : Type} [Rep K α] : Rep K (List α) := ⟨fun F xs v => ∃ p vs, v = .ref p ∧ F p = some (.lst vs) ∧ RpAll (Rep.rp K F) xs vs, fun e ⟨p, vs, h1, h2, h3⟩ => ⟨p, vs, h1, e _ _ h2, h3.imp fun _ _ => Rep.mono e⟩⟩
instance {α β : Type} [Rep K α] [Rep K β] : Rep K (α × β) := ⟨fun F x v => ∃ p u w, v = .ref p ∧ SqT K F p [u, w] ∧ Rep.rp K F x.1 u ∧ Rep.rp K F x.2 w,
  fun e ⟨p, u, w, h1, h2, h3, h4⟩ => ⟨p, u, w, h1, e.sqT h2, Rep.mono e h3, Rep.mono e h4⟩⟩
instance {α β : Type} [Rep K α] [Rep K β] : Rep K (α ⊕ β) := ⟨fun F x v => match x with | .inl y => Rep.rp K F y v | .inr y => Rep.rp K F y v, fun {F F' x v} e h => by
  cases x with
  | inl y => exact Rep.mono (K := K) (α := α) e h
  | inr y => exact Rep.mono (K := K) (α := β) e h⟩
/-- a triple -/
structure T3 (α β γ : Type) where
  a : α
  b : β
  c : γ
  deriving DecidableEq
instance {α β γ : Type} [Rep K α] [Rep K β] [Rep K γ] : Rep K (T3 α β γ) := ⟨fun F x v => ∃ p u w z, v = .ref p ∧ SqT K F p [u, w, z] ∧ Rep.rp K F x.a u ∧ Rep.rp K F x.b w ∧ Rep.rp K F x.c z,
  fun e ⟨p, u, w, z, h1, h2, h3, h4, h5⟩ => ⟨p, u, w, z, h1, e.sqT h2, Rep.mono e h3, Rep.mono e h4, Rep.mono e h5⟩⟩
end

/-! ### owned things: a place that nobody else knows -/
structure OV where
  own : Hp → Hp → Addr → Prop
  stab : ∀ {F F' H H' : Hp} {a : Addr}, Ex F F' → H' a = H a → own F H a → own F' H' a
def OsOk (as : List Addr) (os : List OV) (F H : Hp) : Prop :=
  as.Nodup ∧ as.length = os.length ∧ ∀ (i : Nat) (a : Addr) (o : OV), as[i]? = some a → os[i]? = some o → F a = none ∧ H a ≠ none ∧ o.own F H a
/-- the heap behind a piece of code: only what stands at as may be another -/
structure Nx (as : List Addr) (F H F' H' : Hp) : Prop where
  ff : Ex F F'
  fh : Ex F' H'
  keep : ∀ a o, a ∉ as → H a = some o → H' a = some o
  old : ∀ a, a ∉ as → H a ≠ none → F' a = F a
  there : ∀ a, H a ≠ none → H' a ≠ none
theorem Nx.refl {as : List Addr} {F H : Hp} (e : Ex F H) : Nx as F H F H := ⟨.refl _, e, fun _ _ _ h => h, fun _ _ _ => rfl, fun _ h => h⟩
theorem Nx.trans {as : List Addr} {F H F1 H1 F2 H2 : Hp} (a : Nx as F H F1 H1) (b : Nx as F1 H1 F2 H2) : Nx as F H F2 H2 :=
  ⟨a.ff.trans b.ff, b.fh, fun x o n h => b.keep x o n (a.keep x o n h), fun x n h => (b.old x n (a.there x h)).trans (a.old x n h), fun x h => b.there x (a.there x h)⟩
theorem Nx.sub {as bs : List Addr} {F H F1 H1 : Hp} (a : Nx as F H F1 H1) (h : ∀ x ∈ as, x ∈ bs) : Nx bs F H F1 H1 :=
  ⟨a.ff, a.fh, fun x o n e => a.keep x o (fun m => n (h x m)) e, fun x n => a.old x fun m => n (h x m), a.there⟩
theorem Nx.nil {as : List Addr} {F H F1 H1 : Hp} (a : Nx [] F H F1 H1) : Nx as F H F1 H1 := a.sub fun _ h => nomatch h
theorem Nx.hh {F H F1 H1 : Hp} (a : Nx [] F H F1 H1) : Ex H H1 := fun x o h => a.keep x o (fun m => nomatch m) h
/-- a new thing that stays as it is -/
theorem Nx.new {F H : Hp} {p : Addr} {o : HO} (e : Ex F H) (h : H p = none) : Nx [] F H (upd F p o) (upd H p o) :=
  ⟨.new (e.none h), fun a u q => by
    by_cases hp : a = p
    · subst hp
      rw [upd_same] at q ⊢
      exact q
    · rw [upd_ne hp] at q ⊢
      exact e a u q, fun a u _ q => by rw [upd_ne (ne_of_none q h)]; exact q, fun a _ q => by rw [upd_ne fun z => q (by rw [z]; exact h)], fun a q => by
    rw [upd_ne fun z => q (by rw [z]; exact h)]
    exact q⟩
/-- a new thing that is not known to the frozen heap -/
theorem Nx.newO {F H : Hp} {p : Addr} {o : HO} (e : Ex F H) (h : H p = none) : Nx [] F H F (upd H p o) :=
  ⟨.refl _, e.trans (.new h), fun a u _ q => by rw [upd_ne (ne_of_none q h)]; exact q, fun a _ q => rfl, fun a q => by
    rw [upd_ne fun z => q (by rw [z]; exact h)]
    exact q⟩
/-- an owned thing is changed -/
theorem Nx.mut {as : List Addr} {F H : Hp} {p : Addr} {o : HO} (e : Ex F H) (hp : p ∈ as) (h : F p = none) : Nx as F H F (upd H p o) :=
  ⟨.refl _, fun a u q => by rw [upd_ne (ne_of_none q h)]; exact e a u q, fun a u n q => by rw [upd_ne fun z => n (by rw [z]; exact hp)]; exact q, fun a _ q => rfl, fun a q => by
    by_cases z : a = p
    · subst z
      rw [upd_same]
      exact fun q => nomatch q
    · rw [upd_ne z]
      exact q⟩
theorem OsOk.nil {F H : Hp} : OsOk [] [] F H := ⟨List.nodup_nil, rfl, fun _ _ _ h => by simp at h⟩
/-- what nobody touched stays -/
theorem OsOk.step {as : List Addr} {os : List OV} {F H F' H' : Hp} (ok : OsOk as os F H) (n : Nx [] F H F' H') : OsOk as os F' H' := by
  refine ⟨ok.1, ok.2.1, fun i a o ha ho => ?_⟩
  obtain ⟨h1, h2, h3⟩ := ok.2.2 i a o ha ho
  refine ⟨(n.old a (fun m => nomatch m) h2).trans h1, n.there a h2, o.stab n.ff ?_ h3⟩
  cases e : H a with
  | none => exact absurd e h2
  | some u => exact n.hh a u e

/-! ### slots -/
inductive Sl where
  | un
  | dat (p : Hp → V → Prop) (mono : ∀ {F F' : Hp} {v : V}, Ex F F' → p F v → p F' v)
  | own (k : Nat)
def Sl.of (K : PySem.W.Frag) {α : Type} [Rep K α] (x : α) : Sl := .dat (fun F v => Rep.rp K F x v) Rep.mono
def SlOk (as : List Addr) (F : Hp) (x : Option (Option V)) : Sl → Prop
  | .un => True
  | .dat p _ => ∃ v, x = some (some v) ∧ p F v
  | .own k => ∃ a, as[k]? = some a ∧ x = some (some (.ref a))
theorem SlOk.mono {as : List Addr} {F F' : Hp} {x : Option (Option V)} {s : Sl} (e : Ex F F') (h : SlOk as F x s) : SlOk as F' x s := by
  cases s with
  | un => exact h
  | dat p m => obtain ⟨v, h1, h2⟩ := h; exact ⟨v, h1, m e h2⟩
  | own k => exact h
def EnvOk (as : List Addr) (env : List Sl) (σ : St) (F : Hp) : Prop := σ.length = env.length ∧ ∀ (i : Nat) (s : Sl), env[i]? = some s → SlOk as F σ[i]? s
theorem EnvOk.mono {as : List Addr} {env : List Sl} {σ : St} {F F' : Hp} (e : Ex F F') (h : EnvOk as env σ F) : EnvOk as env σ F' := ⟨h.1, fun i s q => (h.2 i s q).mono e⟩
structure Stt (as : List Addr) (env : List Sl) (os : List OV) (σ : St) (F H : Hp) : Prop where
  ex : Ex F H
  os : OsOk as os F H
  env : EnvOk as env σ F
theorem Stt.step {as : List Addr} {env : List Sl} {os os' : List OV} {σ : St} {F H F' H' : Hp} (S : Stt as env os σ F H) (n : Nx as F H F' H') (o : OsOk as os' F' H') : Stt as env os' σ F' H' := ⟨n.fh, o, S.env.mono n.ff⟩
theorem Stt.step0 {as : List Addr} {env : List Sl} {os : List OV} {σ : St} {F H F' H' : Hp} (S : Stt as env os σ F H) (n : Nx [] F H F' H') : Stt as env os σ F' H' := ⟨n.fh, S.os.step n, S.env.mono n.ff⟩

/-! ### computations: a state comes in, a state and a value go out, or nothing -/
abbrev M (β β' α : Type) := β → Option (α × β')
def pu {β α : Type} (x : α) : M β β α := fun b => some (x, b)
def bd {β β1 β2 α γ : Type} (m : M β β1 α) (k : α → M β1 β2 γ) : M β β2 γ := fun b => (m b).bind fun r => k r.1 r.2
def ov {β α : Type} (o : Option α) : M β β α := fun b => o.map fun x => (x, b)
theorem bd_some {β β1 β2 α γ : Type} {m : M β β1 α} {k : α → M β1 β2 γ} {b : β} {r : γ × β2} (h : bd m k b = some r) : ∃ x b1, m b = some (x, b1) ∧ k x b1 = some r := by
  unfold bd at h
  cases e : m b with
  | none => rw [e] at h; cases h
  | some q => rw [e] at h; exact ⟨q.1, q.2, rfl, h⟩
theorem ov_some {β α : Type} {o : Option α} {b : β} {x : α} {b' : β} (h : ov o b = some (x, b')) : o = some x ∧ b' = b := by
  unfold ov at h
  cases e : o with
  | none => rw [e] at h; cases h
  | some y => rw [e] at h; cases h; exact ⟨rfl, rfl⟩
theorem pu_some {β α : Type} {x y : α} {b b' : β} (h : pu (β := β) x b = some (y, b')) : x = y ∧ b = b' := by
  cases h
  exact ⟨rfl, rfl⟩
theorem of_rfl {α : Sort _} {a b : α} (h : a = b) : a = b := h
@[simp] theorem bd_pu {β β2 α γ : Type} (x : α) (k : α → M β β2 γ) : bd (pu x) k = k x := of_rfl rfl
@[simp] theorem bd_assoc {β β1 β2 β3 α γ δ : Type} (m : M β β1 α) (k : α → M β1 β2 γ) (l : γ → M β2 β3 δ) : bd (bd m k) l = bd m fun x => bd (k x) l := by
  funext b
  unfold bd
  cases m b <;> rfl
@[simp] theorem ov_get {β α : Type} (x : α) : ov (β := β) (some x) = pu x := of_rfl rfl
@[simp] theorem bd_ite {β β1 β2 α γ : Type} (c : Prop) [Decidable c] (m m' : M β β1 α) (k : α → M β1 β2 γ) : bd (if c then m else m') k = if c then bd m k else bd m' k := by
  by_cases h : c
  · rw [if_pos h, if_pos h]
  · rw [if_neg h, if_neg h]

/-! ### expressions -/
section
variable {K : PySem.W.Frag} {β : Type} {env : List Sl} {f : β → List OV}
def Es (K : PySem.W.Frag) {α : Type} [Rep K α] (te : TE) (env : List Sl) (f : β → List OV) (m : M β β α) : Prop :=
  ∀ (as : List Addr) (σ : St) (F H : Hp) (b : β), Stt as env (f b) σ F H → ∀ (x : α) (b' : β), m b = some (x, b') → ∀ Q : VK, (∀ v F' H', Nx as F H F' H' → OsOk as (f b') F' H' → Rep.rp K F' x v → Q v H') → te σ H Q
def Et (tt : TT) (env : List Sl) (f : β → List OV) (m : M β β Bool) : Prop :=
  ∀ (as : List Addr) (σ : St) (F H : Hp) (b : β), Stt as env (f b) σ F H → ∀ (x : Bool) (b' : β), m b = some (x, b') → ∀ Q : Bool → Hp → Prop, (∀ F' H', Nx as F H F' H' → OsOk as (f b') F' H' → Q x H') → tt σ H Q
/-- two-place operations by values -/
def Op2 (K : PySem.W.Frag) {α γ δ : Type} [Rep K α] [Rep K γ] [Rep K δ] (r : R2) (g : α → γ → Option δ) : Prop :=
  ∀ (F H : Hp) (x : α) (y : γ) (z : δ) (v w : V), Ex F H → g x y = some z → Rep.rp K F x v → Rep.rp K F y w → ∀ Q : VK, (∀ u F' H', Nx [] F H F' H' → Rep.rp K F' z u → Q u H') → r v w H Q
variable {α γ δ : Type} [Rep K α] [Rep K γ] [Rep K δ]
def mOp {α γ δ : Type} (g : α → γ → Option δ) (ma : M β β α) (mb : M β β γ) : M β β δ := bd ma fun x => bd mb fun y => ov (g x y)
theorem es_op {r : R2} {g : α → γ → Option δ} (ho : Op2 K r g) {ta tb : TE} {ma : M β β α} {mb : M β β γ} (ha : Es K ta env f ma) (hb : Es K tb env f mb) : Es K (tOp r ta tb) env f (mOp g ma mb) := by
  intro as σ F H b S z b' hm Q q
  obtain ⟨x, b1, e1, hm⟩ := bd_some hm
  obtain ⟨y, b2, e2, hm⟩ := bd_some hm
  obtain ⟨e3, rfl⟩ := ov_some hm
  refine ha as σ F H b S x b1 e1 _ fun v F1 H1 n1 o1 r1 => ?_
  refine hb as σ F1 H1 b1 (S.step n1 o1) y b' e2 _ fun w F2 H2 n2 o2 r2 => ?_
  exact ho F2 H2 x y z v w n2.fh e3 (Rep.mono n2.ff r1) r2 Q fun u F3 H3 n3 r3 => q u F3 H3 ((n1.trans n2).trans n3.nil) (o2.step n3) r3
theorem es_var {i : Nat} {x : α} (h : env[i]? = some (Sl.of K x)) : Es K (tVar i) env f (pu x) := by
  intro as σ F H b S y b' hm Q q
  obtain ⟨rfl, rfl⟩ := pu_some hm
  obtain ⟨v, h1, h2⟩ := S.env.2 i _ h
  exact ⟨v, h1, q v F H (.refl S.ex) S.os h2⟩
theorem es_int {i : Int} : Es K (tC (.int i)) env f (pu i) := by
  intro as σ F H b S y b' hm Q q
  obtain ⟨rfl, rfl⟩ := pu_some hm
  exact q _ F H (.refl S.ex) S.os rfl
theorem es_bl {i : Bool} : Es K (tC (.bl i)) env f (pu i) := by
  intro as σ F H b S y b' hm Q q
  obtain ⟨rfl, rfl⟩ := pu_some hm
  exact q _ F H (.refl S.ex) S.os rfl
theorem es_non : Es K (tC .non) env f (pu ()) := by
  intro as σ F H b S y b' hm Q q
  obtain ⟨rfl, rfl⟩ := pu_some hm
  exact q _ F H (.refl S.ex) S.os rfl
theorem es_noneO : Es K (tC .non) env f (pu (none : Option α)) := by
  intro as σ F H b S y b' hm Q q
  obtain ⟨rfl, rfl⟩ := pu_some hm
  exact q _ F H (.refl S.ex) S.os rfl
theorem es_str {s : Str} {x : Tx} (h : s.cps.toList = x) : Es K (tC (.str s)) env f (pu x) := by
  intro as σ F H b S y b' hm Q q
  obtain ⟨rfl, rfl⟩ := pu_some hm
  refine q _ F H (.refl S.ex) S.os ?_
  show V.str s = V.str (tS x)
  rw [← h, tS_of]
/-- by another view of the value -/
def Cast (K : PySem.W.Frag) {α γ : Type} [Rep K α] [Rep K γ] (g : α → γ) : Prop := ∀ (F : Hp) (x : α) (v : V), Rep.rp K F x v → Rep.rp K F (g x) v
theorem cast_some : Cast K (some : α → Option α) := fun _ _ _ h => h
theorem cast_inl : Cast K (Sum.inl : α → α ⊕ γ) := fun _ _ _ h => h
theorem cast_inr : Cast K (Sum.inr : γ → α ⊕ γ) := fun _ _ _ h => h
def mMap {α γ : Type} (g : α → γ) (ma : M β β α) : M β β γ := bd ma fun x => pu (g x)
theorem es_cast {g : α → γ} (hc : Cast K g) {ta : TE} {ma : M β β α} (ha : Es K ta env f ma) : Es K ta env f (mMap g ma) := by
  intro as σ F H b S z b' hm Q q
  obtain ⟨x, b1, e1, hm⟩ := bd_some hm
  obtain ⟨rfl, rfl⟩ := pu_some hm
  exact ha as σ F H b S x b1 e1 _ fun v F1 H1 n1 o1 r1 => q v F1 H1 n1 o1 (hc _ _ _ r1)
/-- a view that may not be there -/
def CastO (K : PySem.W.Frag) {α γ : Type} [Rep K α] [Rep K γ] (g : α → Option γ) : Prop := ∀ (F : Hp) (x : α) (y : γ) (v : V), g x = some y → Rep.rp K F x v → Rep.rp K F y v
theorem castO_id : CastO K (fun x : Option α => x) := fun _ _ _ _ e h => by
  cases e
  exact h
theorem castO_inl : CastO K (fun x : α ⊕ γ => x.getLeft?) := fun _ x _ _ e h => by
  cases x with
  | inl y => cases e; exact h
  | inr y => cases e
theorem castO_inr : CastO K (fun x : α ⊕ γ => x.getRight?) := fun _ x _ _ e h => by
  cases x with
  | inr y => cases e; exact h
  | inl y => cases e
def mMapO {α γ : Type} (g : α → Option γ) (ma : M β β α) : M β β γ := bd ma fun x => ov (g x)
theorem es_castO {g : α → Option γ} (hc : CastO K g) {ta : TE} {ma : M β β α} (ha : Es K ta env f ma) : Es K ta env f (mMapO g ma) := by
  intro as σ F H b S z b' hm Q q
  obtain ⟨x, b1, e1, hm⟩ := bd_some hm
  obtain ⟨e2, rfl⟩ := ov_some hm
  exact ha as σ F H b S x b' e1 _ fun v F1 H1 n1 o1 r1 => q v F1 H1 n1 o1 (hc _ _ _ _ e2 r1)

/-! ### tests -/
theorem et_test {te : TE} {m : M β β Bool} (h : Es K te env f m) : Et (tTest te) env f m := by
  intro as σ F H b S x b' hm Q q
  exact h as σ F H b S x b' hm _ fun v F1 H1 n1 o1 r1 => ⟨x, r1, q F1 H1 n1 o1⟩
theorem et_B {te : TE} {m : M β β Bool} (h : Es K te env f m) : Et (tB te) env f m := by
  intro as σ F H b S x b' hm Q q
  exact h as σ F H b S x b' hm _ fun v F1 H1 n1 o1 r1 => ⟨x, r1, q F1 H1 n1 o1⟩
def mAnd (ma mb : M β β Bool) : M β β Bool := bd ma fun c => if c = true then mb else pu false
def mOr (ma mb : M β β Bool) : M β β Bool := bd ma fun c => if c = true then pu true else mb
def mNot (ma : M β β Bool) : M β β Bool := bd ma fun c => pu (!c)
def mIf {β' α : Type} (mc : M β β Bool) (ma mb : M β β' α) : M β β' α := bd mc fun c => if c = true then ma else mb
theorem et_and {t u : TT} {ma mb : M β β Bool} (ha : Et t env f ma) (hb : Et u env f mb) : Et (tAnd t u) env f (mAnd ma mb) := by
  intro as σ F H b S x b' hm Q q
  obtain ⟨c, b1, e1, hm⟩ := bd_some hm
  refine ha as σ F H b S c b1 e1 _ fun F1 H1 n1 o1 => ?_
  cases c with
  | true =>
    rw [if_pos rfl] at hm ⊢
    exact hb as σ F1 H1 b1 (S.step n1 o1) x b' hm _ fun F2 H2 n2 o2 => q F2 H2 (n1.trans n2) o2
  | false =>
    rw [if_neg Bool.false_ne_true] at hm ⊢
    obtain ⟨rfl, rfl⟩ := pu_some hm
    exact q F1 H1 n1 o1
theorem et_or {t u : TT} {ma mb : M β β Bool} (ha : Et t env f ma) (hb : Et u env f mb) : Et (tOr t u) env f (mOr ma mb) := by
  intro as σ F H b S x b' hm Q q
  obtain ⟨c, b1, e1, hm⟩ := bd_some hm
  refine ha as σ F H b S c b1 e1 _ fun F1 H1 n1 o1 => ?_
  cases c with
  | true =>
    rw [if_pos rfl] at hm ⊢
    obtain ⟨rfl, rfl⟩ := pu_some hm
    exact q F1 H1 n1 o1
  | false =>
    rw [if_neg Bool.false_ne_true] at hm ⊢
    exact hb as σ F1 H1 b1 (S.step n1 o1) x b' hm _ fun F2 H2 n2 o2 => q F2 H2 (n1.trans n2) o2
theorem et_not {t : TT} {ma : M β β Bool} (ha : Et t env f ma) : Et (tNot t) env f (mNot ma) := by
  intro as σ F H b S x b' hm Q q
  obtain ⟨c, b1, e1, hm⟩ := bd_some hm
  obtain ⟨rfl, rfl⟩ := pu_some hm
  exact ha as σ F H b S c b1 e1 _ fun F1 H1 n1 o1 => q F1 H1 n1 o1
/-- a value's truth -/
def Tru (K : PySem.W.Frag) {α : Type} [Rep K α] (g : α → Option Bool) : Prop := ∀ (F H : Hp) (x : α) (b : Bool) (v : V), Ex F H → g x = some b → Rep.rp K F x v → TruV K v H b
theorem et_tru {g : α → Option Bool} (hg : Tru K g) {te : TE} {m : M β β α} (h : Es K te env f m) : Et (fun σ H Q => te σ H fun x H' => ∃ k, TruV K x H' k ∧ Q k H') env f (mMapO g m) := by
  intro as σ F H b S z b' hm Q q
  obtain ⟨x, b1, e1, hm⟩ := bd_some hm
  obtain ⟨e2, rfl⟩ := ov_some hm
  exact h as σ F H b S x b' e1 _ fun v F1 H1 n1 o1 r1 => ⟨z, hg F1 H1 x z v n1.fh e2 r1, q F1 H1 n1 o1⟩
theorem tru_bl : Tru K (fun x : Bool => some x) := fun _ _ x b v _ e r => by
  cases e
  have r' : v = .bl x := r
  subst r'
  exact rfl
theorem tru_int : Tru K (fun x : Int => some (x != 0)) := fun _ _ x b v _ e r => by
  cases e
  have r' : v = .int x := r
  subst r'
  exact rfl
def gTruL {α : Type} (x : List α) : Option Bool := if x.length ≤ line then some (!x.isEmpty) else none
theorem tru_tx : Tru K (gTruL : Tx → Option Bool) := fun _ _ x b v _ e r => by
  have r' : v = .str (tS x) := r
  subst r'
  unfold gTruL at e
  by_cases hl : x.length ≤ line
  · rw [if_pos hl] at e
    cases e
    refine ⟨by rw [tS_len, sizeLine_eq]; exact hl, ?_⟩
    rw [tS_len]
    cases x <;> simp
    omega
  · rw [if_neg hl] at e
    cases e
theorem tru_list : Tru K (fun x : List α => some (!x.isEmpty)) := fun F H x b v ex e r => by
  cases e
  obtain ⟨p, vs, rfl, h2, h3⟩ := r
  refine .inl ⟨vs, .of (ex _ _ h2), ?_⟩
  cases x <;> cases vs <;> first | rfl | exact h3.elim

/-! ### a if c else b; and, or, not as values -/
theorem es_if {t : TT} {ta tb : TE} {mc : M β β Bool} {ma mb : M β β α} (hc : Et t env f mc) (ha : Es K ta env f ma) (hb : Es K tb env f mb) : Es K (tIf t ta tb) env f (mIf mc ma mb) := by
  intro as σ F H b S x b' hm Q q
  obtain ⟨c, b1, e1, hm⟩ := bd_some hm
  refine hc as σ F H b S c b1 e1 _ fun F1 H1 n1 o1 => ?_
  cases c with
  | true =>
    rw [if_pos rfl] at hm ⊢
    exact ha as σ F1 H1 b1 (S.step n1 o1) x b' hm _ fun v F2 H2 n2 o2 r2 => q v F2 H2 (n1.trans n2) o2 r2
  | false =>
    rw [if_neg Bool.false_ne_true] at hm ⊢
    exact hb as σ F1 H1 b1 (S.step n1 o1) x b' hm _ fun v F2 H2 n2 o2 r2 => q v F2 H2 (n1.trans n2) o2 r2
theorem es_andV {ta tb : TE} {ma mb : M β β Bool} (ha : Es K ta env f ma) (hb : Es K tb env f mb) : Es K (tAndV ta tb) env f (mAnd ma mb) := by
  intro as σ F H b S x b' hm Q q
  obtain ⟨c, b1, e1, hm⟩ := bd_some hm
  refine ha as σ F H b S c b1 e1 _ fun v F1 H1 n1 o1 r1 => ⟨c, r1, ?_⟩
  cases c with
  | true =>
    rw [if_pos rfl] at hm ⊢
    exact hb as σ F1 H1 b1 (S.step n1 o1) x b' hm _ fun v F2 H2 n2 o2 r2 => q v F2 H2 (n1.trans n2) o2 r2
  | false =>
    rw [if_neg Bool.false_ne_true] at hm ⊢
    obtain ⟨rfl, rfl⟩ := pu_some hm
    exact q _ F1 H1 n1 o1 rfl
theorem es_orV {ta tb : TE} {ma mb : M β β Bool} (ha : Es K ta env f ma) (hb : Es K tb env f mb) : Es K (tOrV ta tb) env f (mOr ma mb) := by
  intro as σ F H b S x b' hm Q q
  obtain ⟨c, b1, e1, hm⟩ := bd_some hm
  refine ha as σ F H b S c b1 e1 _ fun v F1 H1 n1 o1 r1 => ⟨c, r1, ?_⟩
  cases c with
  | true =>
    rw [if_pos rfl] at hm ⊢
    obtain ⟨rfl, rfl⟩ := pu_some hm
    exact q _ F1 H1 n1 o1 rfl
  | false =>
    rw [if_neg Bool.false_ne_true] at hm ⊢
    exact hb as σ F1 H1 b1 (S.step n1 o1) x b' hm _ fun v F2 H2 n2 o2 r2 => q v F2 H2 (n1.trans n2) o2 r2
theorem es_notV {ta : TE} {ma : M β β Bool} (ha : Es K ta env f ma) : Es K (tNotV ta) env f (mNot ma) := by
  intro as σ F H b S x b' hm Q q
  obtain ⟨c, b1, e1, hm⟩ := bd_some hm
  obtain ⟨rfl, rfl⟩ := pu_some hm
  exact ha as σ F H b S c b1 e1 _ fun v F1 H1 n1 o1 r1 => ⟨c, r1, q _ F1 H1 n1 o1 rfl⟩

/-! ### arguments -/
/-- a list of arguments as a nested pair -/
class RepA (K : PySem.W.Frag) (α : Type) where
  ra : Hp → α → List V → Prop
  mono : ∀ {F F' : Hp} {x : α} {v : List V}, Ex F F' → ra F x v → ra F' x v
  ar : Nat
  len : ∀ {F : Hp} {x : α} {v : List V}, ra F x v → v.length = ar
  env : α → List Sl
  envOk : ∀ {F : Hp} {x : α} {vs : List V} (as : List Addr), ra F x vs → (env x).length = vs.length ∧ ∀ (i : Nat) (s : Sl), (env x)[i]? = some s → SlOk as F (vs[i]?.map some) s
instance : RepA K Unit := ⟨fun _ _ vs => vs = [], fun _ h => h, 0, fun h => by rw [h]; rfl, fun _ => [], fun as h => ⟨by rw [h] <;> rfl, fun i s e => by simp at e⟩⟩
instance {α γ : Type} [Rep K α] [RepA K γ] : RepA K (α × γ) := ⟨fun F x vs => ∃ v ws, vs = v :: ws ∧ Rep.rp K F x.1 v ∧ RepA.ra K F x.2 ws, fun e ⟨v, ws, h1, h2, h3⟩ => ⟨v, ws, h1, Rep.mono e h2, RepA.mono e h3⟩,
  RepA.ar K γ + 1, fun ⟨v, ws, h1, h2, h3⟩ => by rw [h1, List.length_cons, RepA.len h3], fun x => Sl.of K x.1 :: RepA.env K x.2, fun {F x vs} as ⟨v, ws, h1, h2, h3⟩ => by
    obtain ⟨z1, z2⟩ := RepA.envOk as h3
    subst h1
    refine ⟨by rw [List.length_cons, List.length_cons, z1], fun i s e => ?_⟩
    cases i with
    | zero =>
      have e' : Sl.of K x.1 = s := by simpa using e
      subst e'
      exact ⟨v, rfl, h2⟩
    | succ i => simpa using z2 i s (by simpa using e)⟩
/-- ks: the owned things that are handed over, ahead of the others -/
def Ea (K : PySem.W.Frag) {α : Type} [RepA K α] (ta : TA) (env : List Sl) (f : β → List OV) (ks : List Nat) (m : M β β α) : Prop :=
  ∀ (as : List Addr) (σ : St) (F H : Hp) (b : β), Stt as env (f b) σ F H → ∀ (x : α) (b' : β), m b = some (x, b') → ∀ Q : List V → Hp → Prop, (∀ cs vs F' H', Nx as F H F' H' → OsOk as (f b') F' H' → List.length cs = ks.length → (∀ (i k : Nat), ks[i]? = some k → cs[i]? = as[k]? ∧ k < as.length) → RepA.ra K F' x vs → Q (cs.map V.ref ++ vs) H') → ta σ H Q
theorem ea_nil : Ea K tNil env f [] (pu ()) := by
  intro as σ F H b S x b' hm Q q
  obtain ⟨rfl, rfl⟩ := pu_some hm
  exact q [] [] F H (.refl S.ex) S.os rfl (fun i k h => by simp at h) rfl
def mCons {α γ : Type} (ma : M β β α) (mb : M β β γ) : M β β (α × γ) := bd ma fun x => bd mb fun y => pu (x, y)
theorem ea_cons {η : Type} [RepA K η] {ta : TE} {tr : TA} {ma : M β β α} {mr : M β β η} (ha : Es K ta env f ma) (hr : Ea K tr env f [] mr) : Ea K (tCons ta tr) env f [] (mCons ma mr) := by
  intro as σ F H b S z b' hm Q q
  obtain ⟨x, b1, e1, hm⟩ := bd_some hm
  obtain ⟨y, b2, e2, hm⟩ := bd_some hm
  obtain ⟨rfl, rfl⟩ := pu_some hm
  refine ha as σ F H b S x b1 e1 _ fun v F1 H1 n1 o1 r1 => ?_
  refine hr as σ F1 H1 b1 (S.step n1 o1) y b2 e2 _ fun cs ws F2 H2 n2 o2 hl hc r2 => ?_
  have hcs : cs = [] := List.length_eq_zero_iff.mp hl
  subst hcs
  exact q [] (v :: ws) F2 H2 (n1.trans n2) o2 rfl (fun i k h => by simp at h) ⟨v, ws, rfl, Rep.mono n2.ff r1, r2⟩
theorem ea_own {η : Type} [RepA K η] {i k : Nat} {ks : List Nat} {tr : TA} {mr : M β β η} (h : env[i]? = some (Sl.own k)) (hr : Ea K tr env f ks mr) : Ea K (tCons (tVar i) tr) env f (k :: ks) mr := by
  intro as σ F H b S z b' hm Q q
  obtain ⟨a, h1, h2⟩ := S.env.2 i _ h
  refine ⟨.ref a, h2, ?_⟩
  refine hr as σ F H b S z b' hm _ fun cs ws F2 H2 n2 o2 hl hc r2 => ?_
  refine q (a :: cs) ws F2 H2 n2 o2 (by simp [hl]) (fun i k' hk => ?_) r2
  cases i with
  | zero =>
    have e : k = k' := by simpa using hk
    subst e
    exact ⟨by simpa using h1.symm, (List.getElem?_eq_some_iff.mp h1).1⟩
  | succ i => simpa using hc i k' (by simpa using hk)
/-- items of one kind -/
def El (K : PySem.W.Frag) {α : Type} [Rep K α] (ta : TA) (env : List Sl) (f : β → List OV) (m : M β β (List α)) : Prop :=
  ∀ (as : List Addr) (σ : St) (F H : Hp) (b : β), Stt as env (f b) σ F H → ∀ (x : List α) (b' : β), m b = some (x, b') → ∀ Q : List V → Hp → Prop, (∀ vs F' H', Nx as F H F' H' → OsOk as (f b') F' H' → RpAll (Rep.rp K F') x vs → Q vs H') → ta σ H Q
def mConsL {α : Type} (ma : M β β α) (mb : M β β (List α)) : M β β (List α) := bd ma fun x => bd mb fun y => pu (x :: y)
theorem el_nil : El K (α := α) tNil env f (pu []) := by
  intro as σ F H b S x b' hm Q q
  obtain ⟨rfl, rfl⟩ := pu_some hm
  exact q [] F H (.refl S.ex) S.os trivial
theorem el_cons {ta : TE} {tr : TA} {ma : M β β α} {mr : M β β (List α)} (ha : Es K ta env f ma) (hr : El K tr env f mr) : El K (tCons ta tr) env f (mConsL ma mr) := by
  intro as σ F H b S z b' hm Q q
  obtain ⟨x, b1, e1, hm⟩ := bd_some hm
  obtain ⟨y, b2, e2, hm⟩ := bd_some hm
  obtain ⟨rfl, rfl⟩ := pu_some hm
  refine ha as σ F H b S x b1 e1 _ fun v F1 H1 n1 o1 r1 => ?_
  refine hr as σ F1 H1 b1 (S.step n1 o1) y b2 e2 _ fun ws F2 H2 n2 o2 r2 => ?_
  exact q (v :: ws) F2 H2 (n1.trans n2) o2 ⟨Rep.mono n2.ff r1, r2⟩
def chk {α : Type} (l : List α) : Option (List α) := if l.length ≤ line then some l else none
theorem chk_some {α : Type} {l m : List α} (h : chk l = some m) : l = m ∧ m.length ≤ sizeLine := by
  unfold chk at h
  by_cases e : l.length ≤ line
  · rw [if_pos e] at h
    cases h
    exact ⟨rfl, by rw [sizeLine_eq]; exact e⟩
  · rw [if_neg e] at h
    cases h
theorem chk_ok {α : Type} {l : List α} (h : l.length ≤ line) : chk l = some l := if_pos h
theorem es_lst {ta : TA} {ma : M β β (List α)} (ha : El K ta env f ma) : Es K (tLst ta) env f (mMapO chk ma) := by
  intro as σ F H b S z b' hm Q q
  obtain ⟨x, b1, e1, hm⟩ := bd_some hm
  obtain ⟨e2, rfl⟩ := ov_some hm
  obtain ⟨rfl, hz⟩ := chk_some e2
  refine ha as σ F H b S x b' e1 _ fun vs F1 H1 n1 o1 r1 => ⟨by rw [← r1.length]; exact hz, fun p hp => ?_⟩
  have n2 := Nx.new (o := .lst vs) n1.fh hp
  exact q _ _ _ (n1.trans n2.nil) (o1.step n2) ⟨p, vs, rfl, upd_same, r1.imp fun _ _ => Rep.mono n2.ff⟩
def pr2 {α γ : Type} (x : α × γ × Unit) : α × γ := (x.1, x.2.1)
theorem es_tup2 {ta : TA} {ma : M β β (α × γ × Unit)} (ha : Ea K ta env f [] ma) : Es K (tTup ta) env f (mMap pr2 ma) := by
  intro as σ F H b S z b' hm Q q
  obtain ⟨⟨x, y, _⟩, b1, e1, hm⟩ := bd_some hm
  obtain ⟨rfl, rfl⟩ := pu_some hm
  refine ha as σ F H b S _ b1 e1 _ fun cs vs F1 H1 n1 o1 hl _ r1 => ?_
  have hcs : cs = [] := List.length_eq_zero_iff.mp hl
  subst hcs
  obtain ⟨v, _, rfl, r1, w, _, rfl, r2, rfl⟩ := r1
  refine ⟨by show 2 ≤ sizeLine; rw [sizeLine_eq]; decide, fun p hp => ?_⟩
  have n2 := Nx.new (o := .tup [v, w]) n1.fh hp
  exact q _ _ _ (n1.trans n2.nil) (o1.step n2) ⟨p, v, w, rfl, .of upd_same, Rep.mono n2.ff r1, Rep.mono n2.ff r2⟩
def pr3 {α γ δ : Type} (x : α × γ × δ × Unit) : T3 α γ δ := ⟨x.1, x.2.1, x.2.2.1⟩
theorem es_tup3 {ta : TA} {ma : M β β (α × γ × δ × Unit)} (ha : Ea K ta env f [] ma) : Es K (tTup ta) env f (mMap pr3 ma) := by
  intro as σ F H b S z b' hm Q q
  obtain ⟨⟨x, y, z0, _⟩, b1, e1, hm⟩ := bd_some hm
  obtain ⟨rfl, rfl⟩ := pu_some hm
  refine ha as σ F H b S _ b1 e1 _ fun cs vs F1 H1 n1 o1 hl _ r1 => ?_
  have hcs : cs = [] := List.length_eq_zero_iff.mp hl
  subst hcs
  obtain ⟨v, _, rfl, r1, w, _, rfl, r2, u, _, rfl, r3, rfl⟩ := r1
  refine ⟨by show 3 ≤ sizeLine; rw [sizeLine_eq]; decide, fun p hp => ?_⟩
  have n2 := Nx.new (o := .tup [v, w, u]) n1.fh hp
  exact q _ _ _ (n1.trans n2.nil) (o1.step n2) ⟨p, v, w, u, rfl, .of upd_same, Rep.mono n2.ff r1, Rep.mono n2.ff r2, Rep.mono n2.ff r3⟩
/-- a call of what is known by values -/
def Cl (K : PySem.W.Frag) {α γ : Type} [RepA K α] [Rep K γ] (r : List V → Hp → VK → Prop) (g : α → Option γ) : Prop :=
  ∀ (F H : Hp) (x : α) (z : γ) (vs : List V), Ex F H → g x = some z → RepA.ra K F x vs → ∀ Q : VK, (∀ u F' H', Nx [] F H F' H' → Rep.rp K F' z u → Q u H') → r vs H Q
theorem es_cb {η : Type} [RepA K η] {r : List V → Hp → VK → Prop} {g : η → Option α} (hg : Cl K r g) {ta : TA} {ma : M β β η} (ha : Ea K ta env f [] ma) : Es K (tCB r ta) env f (mMapO g ma) := by
  intro as σ F H b S z b' hm Q q
  obtain ⟨x, b1, e1, hm⟩ := bd_some hm
  obtain ⟨e2, rfl⟩ := ov_some hm
  refine ha as σ F H b S x b' e1 _ fun cs vs F1 H1 n1 o1 hl _ r1 => ?_
  have hcs : cs = [] := List.length_eq_zero_iff.mp hl
  subst hcs
  exact hg F1 H1 x z vs n1.fh e2 r1 Q fun u F2 H2 n2 r2 => q u F2 H2 (n1.trans n2.nil) (o1.step n2) r2
end
end Tw

namespace Tw
open PySem L2

/-! ### statements -/
inductive Fl (γ ρ : Type) where
  | nx (g : γ)
  | bk (g : γ)
  | ct (g : γ)
  | rt (r : ρ)

section
variable {K : PySem.W.Frag}
def SPost (K : PySem.W.Frag) {γ ρ β' : Type} [Rep K ρ] (as : List Addr) (f' : β' → List OV) (eN : γ → List Sl) (F H : Hp) (D : Ends) (o : Fl γ ρ) (b' : β') : Prop :=
  match o with
  | .nx g => ∀ σ' F' H', Nx as F H F' H' → Stt (as.take (f' b').length) (eN g) (f' b') σ' F' H' → D.nx σ' H'
  | .bk g => ∀ σ' F' H', Nx as F H F' H' → Stt (as.take (f' b').length) (eN g) (f' b') σ' F' H' → D.bk σ' H'
  | .ct g => ∀ σ' F' H', Nx as F H F' H' → Stt (as.take (f' b').length) (eN g) (f' b') σ' F' H' → D.ct σ' H'
  | .rt r => ∀ v F' H', Nx as F H F' H' → OsOk (as.take (f' b').length) (f' b') F' H' → Rep.rp K F' r v → D.rt v H'
def Ss (K : PySem.W.Frag) {β β' γ ρ : Type} [Rep K ρ] (ts : TS) (env : List Sl) (f : β → List OV) (f' : β' → List OV) (m : M β β' (Fl γ ρ)) (eN : γ → List Sl) : Prop :=
  ∀ (as : List Addr) (σ : St) (F H : Hp) (b : β), Stt as env (f b) σ F H → ∀ (o : Fl γ ρ) (b' : β'), m b = some (o, b') → ∀ D : Ends, SPost K as f' eN F H D o b' → ts D σ H

/-- fewer slots known -/
def EnvLe : List Sl → List Sl → Prop
  | [], [] => True
  | a :: as, b :: bs => (b = .un ∨ b = a) ∧ EnvLe as bs
  | _, _ => False
theorem EnvLe.len : ∀ {e e' : List Sl}, EnvLe e e' → e.length = e'.length
  | [], [], _ => rfl
  | _ :: _, _ :: _, h => by rw [List.length_cons, List.length_cons, EnvLe.len h.2]
  | [], _ :: _, h => h.elim
  | _ :: _, [], h => h.elim
theorem EnvLe.get : ∀ {e e' : List Sl} (i : Nat) {s : Sl}, EnvLe e e' → e'[i]? = some s → s = .un ∨ e[i]? = some s
  | [], [], _, _, _, h => by simp at h
  | a :: _, b :: _, 0, s, h, q => by
    have e : b = s := by simpa using q
    subst e
    rcases h.1 with h | h
    · exact .inl h
    · exact .inr (by rw [h]; rfl)
  | _ :: _, _ :: _, i + 1, s, h, q => by
    have := EnvLe.get i (s := s) h.2 (by simpa using q)
    simpa using this
  | [], _ :: _, _, _, h, _ => h.elim
  | _ :: _, [], _, _, h, _ => h.elim
theorem EnvLe.refl : ∀ (e : List Sl), EnvLe e e
  | [] => trivial
  | _ :: es => ⟨.inr rfl, EnvLe.refl es⟩
theorem EnvLe.trans : ∀ {e e' e'' : List Sl}, EnvLe e e' → EnvLe e' e'' → EnvLe e e''
  | [], [], [], _, _ => trivial
  | _ :: _, _ :: _, _ :: _, h, h' => ⟨by
    rcases h'.1 with q | q
    · exact .inl q
    · rw [q]; exact h.1, EnvLe.trans h.2 h'.2⟩
  | [], [], _ :: _, _, h => h.elim
  | [], _ :: _, _, h, _ => h.elim
  | _ :: _, [], _, h, _ => h.elim
  | _ :: _, _ :: _, [], _, h => h.elim
theorem EnvOk.le {as : List Addr} {e e' : List Sl} {σ : St} {F : Hp} (ok : EnvOk as e σ F) (h : EnvLe e e') : EnvOk as e' σ F :=
  ⟨ok.1.trans h.len, fun i s q => by
    rcases h.get i q with z | z
    · rw [z]; trivial
    · exact ok.2 i s z⟩
theorem Stt.le {as : List Addr} {e e' : List Sl} {os : List OV} {σ : St} {F H : Hp} (S : Stt as e os σ F H) (h : EnvLe e e') : Stt as e' os σ F H := ⟨S.ex, S.os, S.env.le h⟩
theorem Stt.take {as : List Addr} {e : List Sl} {os : List OV} {σ : St} {F H : Hp} (S : Stt as e os σ F H) : Stt (as.take os.length) e os σ F H := by
  rw [List.take_of_length_le (Nat.le_of_eq S.os.2.1)]
  exact S
theorem OsOk.take {as : List Addr} {os : List OV} {F H : Hp} (S : OsOk as os F H) : OsOk (as.take os.length) os F H := by
  rw [List.take_of_length_le (Nat.le_of_eq S.2.1)]
  exact S
theorem EnvOk.set {as : List Addr} {env : List Sl} {σ : St} {F : Hp} {i : Nat} {s : Sl} {v : V} (ok : EnvOk as env σ F) (h : i < env.length → SlOk as F (some (some v)) s) : EnvOk as (env.set i s) (σ.set i (some v)) F := by
  refine ⟨by rw [List.length_set, List.length_set]; exact ok.1, fun j t q => ?_⟩
  by_cases hj : i = j
  · subst hj
    by_cases hi : i < env.length
    · rw [List.getElem?_set_self hi] at q
      cases q
      rw [List.getElem?_set_self (by rw [ok.1]; exact hi)]
      exact h hi
    · rw [List.getElem?_eq_none (by rw [List.length_set]; omega)] at q
      cases q
  · rw [List.getElem?_set_ne hj] at q ⊢
    exact ok.2 j t q

/-! ### targets -/
section
variable {α γ δ : Type} [Rep K α] [Rep K γ] [Rep K δ]
def Tg (K : PySem.W.Frag) {α : Type} [Rep K α] (g : TG) (env : List Sl) (e' : α → List Sl) : Prop :=
  ∀ (as : List Addr) (σ : St) (F H : Hp) (x : α) (v : V), Ex F H → EnvOk as env σ F → Rep.rp K F x v → ∀ Q : St → Hp → Prop, (∀ σ', EnvOk as (e' x) σ' F → Q σ' H) → g v σ H Q
theorem tg_name {i : Nat} {env : List Sl} : Tg K (gName i) env (fun x : α => env.set i (Sl.of K x)) := fun as σ F H x v _ ok r Q q =>
  q _ (ok.set (s := Sl.of K x) fun _ => ⟨v, rfl, r⟩)
theorem tg_pair {i j : Nat} {env : List Sl} : Tg K (gTup K 2 (gCons (gName i) (gCons (gName j) gNil))) env (fun x : α × γ => (env.set i (Sl.of K x.1)).set j (Sl.of K x.2)) := fun as σ F H x v ex ok r Q q => by
  obtain ⟨p, u, w, rfl, h2, h3, h4⟩ := r
  exact ⟨p, [u, w], rfl, ex.sqT h2, rfl, u, [w], rfl, w, [], rfl, rfl, q _ ((ok.set (s := Sl.of K x.1) fun _ => ⟨u, rfl, h3⟩).set (s := Sl.of K x.2) fun _ => ⟨w, rfl, h4⟩)⟩
theorem tg_tri {i j k : Nat} {env : List Sl} : Tg K (gTup K 3 (gCons (gName i) (gCons (gName j) (gCons (gName k) gNil)))) env (fun x : T3 α γ δ => ((env.set i (Sl.of K x.a)).set j (Sl.of K x.b)).set k (Sl.of K x.c)) := fun as σ F H x v ex ok r Q q => by
  obtain ⟨p, u, w, z, rfl, h2, h3, h4, h5⟩ := r
  exact ⟨p, [u, w, z], rfl, ex.sqT h2, rfl, u, [w, z], rfl, w, [z], rfl, z, [], rfl, rfl, q _ (((ok.set (s := Sl.of K x.a) fun _ => ⟨u, rfl, h3⟩).set (s := Sl.of K x.b) fun _ => ⟨w, rfl, h4⟩).set (s := Sl.of K x.c) fun _ => ⟨z, rfl, h5⟩)⟩
end

/-! ### blocks -/
section
variable {β β1 β2 γ γ' ρ α δ : Type} [Rep K ρ] [Rep K α] [Rep K δ] {env : List Sl} {f : β → List OV} {f1 : β1 → List OV} {f2 : β2 → List OV} {eN : γ → List Sl}
theorem ss_nx {g : γ} (h : EnvLe env (eN g)) : Ss K (ρ := ρ) tNext env f f (pu (.nx g)) eN := by
  intro as σ F H b S o b' hm D q
  obtain ⟨rfl, rfl⟩ := pu_some hm
  exact q σ F H (.refl S.ex) (S.le h).take
theorem ss_bk {g : γ} (h : EnvLe env (eN g)) : Ss K (ρ := ρ) tBreak env f f (pu (.bk g)) eN := by
  intro as σ F H b S o b' hm D q
  obtain ⟨rfl, rfl⟩ := pu_some hm
  exact q σ F H (.refl S.ex) (S.le h).take
theorem ss_ct {g : γ} (h : EnvLe env (eN g)) : Ss K (ρ := ρ) tCont env f f (pu (.ct g)) eN := by
  intro as σ F H b S o b' hm D q
  obtain ⟨rfl, rfl⟩ := pu_some hm
  exact q σ F H (.refl S.ex) (S.le h).take
def mRet {α γ : Type} (ma : M β β α) : M β β (Fl γ α) := bd ma fun x => pu (.rt x)
theorem ss_ret {te : TE} {ma : M β β ρ} (ha : Es K te env f ma) : Ss K (tRet te) env f f (mRet ma) eN := by
  intro as σ F H b S o b' hm D q
  obtain ⟨x, b1, e1, hm⟩ := bd_some hm
  obtain ⟨rfl, rfl⟩ := pu_some hm
  exact ha as σ F H b S x b1 e1 _ fun v F1 H1 n1 o1 r1 => q v F1 H1 n1 o1.take r1
theorem ss_retN : Ss K (ρ := Unit) tRetN env f f (pu (.rt ())) eN := by
  intro as σ F H b S o b' hm D q
  obtain ⟨rfl, rfl⟩ := pu_some hm
  exact q _ F H (.refl S.ex) S.os.take rfl
/-- behind some steps the end's wishes are the same -/
theorem SPost.step {as : List Addr} {F H F1 H1 : Hp} {D : Ends} {o : Fl γ ρ} {b' : β2} (n : Nx as F H F1 H1) (q : SPost K as f2 eN F H D o b') : SPost K as f2 eN F1 H1 D o b' := by
  cases o with
  | nx g => exact fun σ' F' H' n' => q σ' F' H' (n.trans n')
  | bk g => exact fun σ' F' H' n' => q σ' F' H' (n.trans n')
  | ct g => exact fun σ' F' H' n' => q σ' F' H' (n.trans n')
  | rt r => exact fun v F' H' n' => q v F' H' (n.trans n')
theorem SPost.nx {as : List Addr} {F H : Hp} {D : Ends} {N : St → Hp → Prop} {o : Fl γ ρ} {b' : β2} (h : ∀ g, o ≠ .nx g) (q : SPost K as f2 eN F H D o b') : SPost K as f2 eN F H { D with nx := N } o b' := by
  cases o with
  | nx g => exact absurd rfl (h g)
  | bk g => exact q
  | ct g => exact q
  | rt r => exact q
/-- target = value; the rest -/
theorem ss_asg {te : TE} {g : TG} {tr : TS} {ma : M β β α} {e' : α → List Sl} {mr : α → M β β2 (Fl γ ρ)} (ha : Es K te env f ma) (hg : Tg K g env e') (hr : ∀ x, Ss K tr (e' x) f f2 (mr x) eN) :
    Ss K (tSeq (tAsg te g) tr) env f f2 (bd ma mr) eN := by
  intro as σ F H b S o b' hm D q
  obtain ⟨x, b1, e1, hm⟩ := bd_some hm
  refine ha as σ F H b S x b1 e1 _ fun v F1 H1 n1 o1 r1 => ?_
  refine hg as σ F1 H1 x v n1.fh (S.env.mono n1.ff) r1 _ fun σ' ok => ?_
  exact hr x as σ' F1 H1 b1 ⟨n1.fh, o1, ok⟩ o b' hm D (q.step n1)
/-- an expression whose value is dropped; the rest -/
theorem ss_drop {te : TE} {tr : TS} {ma : M β β α} {mr : α → M β β2 (Fl γ ρ)} (ha : Es K te env f ma) (hr : ∀ x, Ss K tr env f f2 (mr x) eN) :
    Ss K (tSeq (tDrop te) tr) env f f2 (bd ma mr) eN := by
  intro as σ F H b S o b' hm D q
  obtain ⟨x, b1, e1, hm⟩ := bd_some hm
  refine ha as σ F H b S x b1 e1 _ fun v F1 H1 n1 o1 r1 => ?_
  exact hr x as σ F1 H1 b1 (S.step n1 o1) o b' hm D (q.step n1)
/-- name op= value; the rest -/
theorem ss_aug {i : Nat} {te : TE} {r : TIp} {tr : TS} {x : α} {g : α → δ → Option α} {ma : M β β δ} {mr : α → M β β2 (Fl γ ρ)} (hi : env[i]? = some (Sl.of K x)) (ho : Op2 K r g) (ha : Es K te env f ma) (hr : ∀ x, Ss K tr (env.set i (Sl.of K x)) f f2 (mr x) eN) :
    Ss K (tSeq (tAug i te r) tr) env f f2 (bd (bd ma fun y => ov (g x y)) mr) eN := by
  intro as σ F H b S o b' hm D q
  obtain ⟨z, b1, e1, hm⟩ := bd_some hm
  obtain ⟨y, b2, e2, e3⟩ := bd_some e1
  obtain ⟨e4, rfl⟩ := ov_some e3
  obtain ⟨v, h1, h2⟩ := S.env.2 i _ hi
  refine ⟨v, h1, ?_⟩
  refine ha as σ F H b S y b1 e2 _ fun w F1 H1 n1 o1 r1 => ?_
  refine ho F1 H1 x y z v w n1.fh e4 (Rep.mono n1.ff h2) r1 _ fun u F2 H2 n2 r2 => ?_
  have n := n1.trans n2.nil
  exact hr z as _ F2 H2 b1 ⟨n2.fh, o1.step n2, ((S.env.mono n.ff).set fun _ => ⟨u, rfl, r2⟩)⟩ o b' hm D (q.step n)
def rtD {β β2 γ ρ : Type} (j : β → β2) (x : ρ) : M β β2 (Fl γ ρ) := fun b => some (.rt x, j b)
/-- a compound statement; the rest (the same owned things through the statement) -/
def mThen {β β2 γ γ' ρ : Type} (j : β → β2) (m : M β β (Fl γ' ρ)) (k : γ' → M β β2 (Fl γ ρ)) : M β β2 (Fl γ ρ) := bd m fun o => match o with
  | .nx g => k g
  | .rt x => rtD j x
  | _ => fun _ => none
def DropF {β β2 : Type} (f : β → List OV) (f2 : β2 → List OV) (j : β → β2) : Prop := ∀ b, ∃ n, f2 (j b) = (f b).take n
theorem DropF.ok {j : β → β2} (h : DropF f f2 j) {as : List Addr} {b : β} {F H : Hp} (S : OsOk as (f b) F H) : OsOk (as.take (f2 (j b)).length) (f2 (j b)) F H := by
  obtain ⟨n, e⟩ := h b
  rw [e]
  have hl := S.2.1
  refine ⟨S.1.sublist (List.take_sublist _ _), by rw [List.length_take, List.length_take]; omega, fun i a o h1 h2 => ?_⟩
  rw [List.getElem?_take] at h1 h2
  split at h1
  · split at h2
    · exact S.2.2 i a o h1 h2
    · cases h2
  · cases h1
def SameLen {β : Type} (f : β → List OV) : Prop := ∀ b b', (f b).length = (f b').length
theorem ss_then {t tr : TS} {m : M β β (Fl γ' ρ)} {e1 : γ' → List Sl} {k : γ' → M β β2 (Fl γ ρ)} {j : β → β2} (h : Ss K t env f f m e1) (hr : ∀ g, Ss K tr (e1 g) f f2 (k g) eN) (hj : DropF f f2 j := by exact fun _ => ⟨_, rfl⟩) (hl : SameLen f := by exact fun _ _ => rfl) :
    Ss K (tSeq t tr) env f f2 (mThen j m k) eN := by
  intro as σ F H b S o b' hm D q
  obtain ⟨o1, b1, q1, hm⟩ := bd_some hm
  have el : as.take (f b1).length = as := List.take_of_length_le (by rw [hl b1 b]; exact Nat.le_of_eq S.os.2.1)
  refine h as σ F H b S o1 b1 q1 { D with nx := tr D } ?_
  cases o1 with
  | nx g =>
    intro σ' F' H' n' S'
    rw [el] at S'
    exact hr g as σ' F' H' b1 S' o b' hm D (q.step n')
  | rt x =>
    intro v F' H' n' o' r
    have hm : some ((Fl.rt x : Fl γ ρ), j b1) = some (o, b') := hm
    cases hm
    rw [el] at o'
    exact q v F' H' n' (hj.ok o') r
  | bk g => cases hm
  | ct g => cases hm
/-- a compound statement that is the last: its breaks and continues go through -/
theorem ss_last {t : TS} {m : M β β2 (Fl γ ρ)} (h : Ss K t env f f2 m eN) : Ss K (tSeq t tNext) env f f2 m eN := by
  intro as σ F H b S o b' hm D q
  exact h as σ F H b S o b' hm _ q
theorem ss_if {c : TT} {t u : TS} {mc : M β β Bool} {ma mb : M β β2 (Fl γ ρ)} (hc : Et c env f mc) (ha : Ss K t env f f2 ma eN) (hb : Ss K u env f f2 mb eN) : Ss K (tIfS c t u) env f f2 (mIf mc ma mb) eN := by
  intro as σ F H b S o b' hm D q
  obtain ⟨x, b1, e1, hm⟩ := bd_some hm
  refine hc as σ F H b S x b1 e1 _ fun F1 H1 n1 o1 => ?_
  cases x with
  | true =>
    rw [if_pos rfl] at hm ⊢
    exact ha as σ F1 H1 b1 (S.step n1 o1) o b' hm D (q.step n1)
  | false =>
    rw [if_neg Bool.false_ne_true] at hm ⊢
    exact hb as σ F1 H1 b1 (S.step n1 o1) o b' hm D (q.step n1)
theorem ss_never {m : M β β2 (Fl γ ρ)} (h : ∀ b, m b = none) : Ss K tNever env f f2 m eN := by
  intro as σ F H b S o b' hm D q
  rw [h b] at hm
  cases hm

/-! ### loops -/
/-- an iterator that walks xs -/
def ItOk (K : PySem.W.Frag) {α : Type} [Rep K α] (J : It) (xs : List α) (F : Hp) : Prop :=
  ∀ (i : Nat) (F2 H2 : Hp), Ex F F2 → Ex F2 H2 → (∀ x, xs[i]? = some x → J.go i H2 ∧ ∀ v H', J.yld i H2 v H' → ∃ F', Nx [] F2 H2 F' H' ∧ Rep.rp K F' x v) ∧ (i = xs.length → J.stop i H2)
def Ei (K : PySem.W.Frag) {β α : Type} [Rep K α] (wi : TI) (env : List Sl) (f : β → List OV) (m : M β β (List α)) : Prop :=
  ∀ (as : List Addr) (σ : St) (F H : Hp) (b : β), Stt as env (f b) σ F H → ∀ (xs : List α) (b' : β), m b = some (xs, b') → ∀ R : It → Hp → Prop, (∀ J F' H', Nx as F H F' H' → OsOk as (f b') F' H' → ItOk K J xs F' → R J H') → wi σ H R
def loopM {β α γ ρ : Type} (body : γ → α → M β β (Fl γ ρ)) : List α → γ → M β β (Fl γ ρ)
  | [], c => pu (.nx c)
  | x :: xs, c => bd (body c x) fun o => match o with
    | .nx c' => loopM body xs c'
    | .ct c' => loopM body xs c'
    | .bk c' => pu (.nx c')
    | .rt r => pu (.rt r)
theorem ss_for {wi : TI} {g : TG} {tb : TS} {mi : M β β (List α)} {c0 : γ} {eT : γ → α → List Sl} {body : γ → α → M β β (Fl γ ρ)} (hi : Ei K wi env f mi) (he : EnvLe env (eN c0)) (hg : ∀ c, Tg K g (eN c) (eT c)) (hb : ∀ c x, Ss K tb (eT c x) f f (body c x) eN)
    (hl : SameLen f := by exact fun _ _ => rfl) : Ss K (tFor wi g tb) env f f (bd mi fun xs => loopM body xs c0) eN := by
  intro as σ F H b S o b' hm D q
  obtain ⟨xs, b1, e1, hm⟩ := bd_some hm
  refine hi as σ F H b S xs b1 e1 _ fun J F1 H1 n1 o1 it => ?_
  have el : ∀ b', as.take (f b').length = as := fun b' => List.take_of_length_le (by rw [hl b' b]; exact Nat.le_of_eq S.os.2.1)
  let W : Nat → Nat → St → Hp → Prop := fun i n σ' H' => n = xs.length - i ∧ i ≤ xs.length ∧ ∃ (c : γ) (b2 : β) (F' : Hp), Nx as F1 H1 F' H' ∧ Stt as (eN c) (f b2) σ' F' H' ∧ loopM body (xs.drop i) c b2 = some (o, b')
  refine ⟨W, ⟨_, rfl, Nat.zero_le _, c0, b1, F1, .refl n1.fh, (S.step n1 o1).le he, hm⟩, ?_⟩
  rintro i n σ2 H2 ⟨rfl, hin, c, b2, F2, n2, S2, hm2⟩
  obtain ⟨t1, t2⟩ := it i F2 H2 n2.ff n2.fh
  have q2 := q.step (n1.trans n2)
  by_cases hlt : i < xs.length
  · refine .inr ?_
    obtain ⟨g1, g2⟩ := t1 xs[i] (List.getElem?_eq_getElem hlt)
    rw [List.drop_eq_getElem_cons hlt] at hm2
    obtain ⟨o1', b3, q3, hm3⟩ := bd_some hm2
    refine ⟨g1, fun σ' H' => ∃ m', m' < xs.length - i ∧ W (i + 1) m' σ' H', fun _ _ h => h, fun v H' y => ?_⟩
    obtain ⟨F', n4, r4⟩ := g2 v H' y
    refine hg c as σ2 F' H' xs[i] v n4.fh (S2.env.mono n4.ff) r4 _ fun σ' ok => ?_
    refine hb c xs[i] as σ' F' H' b2 ⟨n4.fh, S2.os.step n4, ok⟩ o1' b3 q3 _ ?_
    have nx : ∀ c', loopM body (xs.drop (i + 1)) c' b3 = some (o, b') → ∀ σ5 F5 H5, Nx as F' H' F5 H5 → Stt (as.take (f b3).length) (eN c') (f b3) σ5 F5 H5 → ∃ m', m' < xs.length - i ∧ W (i + 1) m' σ5 H5 := fun c' hm' σ5 F5 H5 n5 S5 => by
      rw [el] at S5
      exact ⟨_, by omega, rfl, hlt, c', b3, F5, (n2.trans n4.nil).trans n5, S5, hm'⟩
    cases o1' with
    | nx c' => exact nx c' hm3
    | ct c' => exact nx c' hm3
    | bk c' =>
      obtain ⟨rfl, rfl⟩ := pu_some hm3
      exact fun σ5 F5 H5 n5 S5 => q2 σ5 F5 H5 (n4.nil.trans n5) S5
    | rt r =>
      obtain ⟨rfl, rfl⟩ := pu_some hm3
      exact fun v F5 H5 n5 o5 r5 => q2 v F5 H5 (n4.nil.trans n5) o5 r5
  · have ei : i = xs.length := by omega
    subst ei
    rw [List.drop_length] at hm2
    obtain ⟨rfl, rfl⟩ := pu_some hm2
    exact .inl ⟨t2 rfl, q2 σ2 F2 H2 (.refl S2.ex) S2.take⟩
/-- while, by fuel -/
def whileM {β γ ρ : Type} (mc : γ → M β β Bool) (body : γ → M β β (Fl γ ρ)) : Nat → γ → M β β (Fl γ ρ)
  | 0, _ => fun _ => none
  | n + 1, c => bd (mc c) fun t => if t = true then bd (body c) fun o => match o with
    | .nx c' => whileM mc body n c'
    | .ct c' => whileM mc body n c'
    | .bk c' => pu (.nx c')
    | .rt r => pu (.rt r)
    else pu (.nx c)
theorem ss_while {tc : TT} {tb : TS} {c0 : γ} {n : Nat} {mc : γ → M β β Bool} {body : γ → M β β (Fl γ ρ)} (he : EnvLe env (eN c0)) (hc : ∀ c, Et tc (eN c) f (mc c)) (hb : ∀ c, Ss K tb (eN c) f f (body c) eN)
    (hl : SameLen f := by exact fun _ _ => rfl) : Ss K (tWhile tc tb) env f f (whileM mc body n c0) eN := by
  intro as σ F H b S o b' hm D q
  have el : ∀ b', as.take (f b').length = as := fun b' => List.take_of_length_le (by rw [hl b' b]; exact Nat.le_of_eq S.os.2.1)
  let W : Nat → St → Hp → Prop := fun k σ' H' => ∃ (c : γ) (b2 : β) (F' : Hp), Nx as F H F' H' ∧ Stt as (eN c) (f b2) σ' F' H' ∧ whileM mc body k c b2 = some (o, b')
  refine ⟨W, ⟨n, c0, b, F, .refl S.ex, S.le he, hm⟩, ?_⟩
  rintro k σ2 H2 ⟨c, b2, F2, n2, S2, hm2⟩
  cases k with
  | zero => cases hm2
  | succ k =>
    obtain ⟨t, b3, e3, hm3⟩ := bd_some hm2
    refine hc c as σ2 F2 H2 b2 S2 t b3 e3 _ fun F3 H3 n3 o3 => ?_
    have S3 := S2.step n3 o3
    have q3 := (q.step n2).step n3
    cases t with
    | false =>
      rw [if_neg Bool.false_ne_true] at hm3 ⊢
      obtain ⟨rfl, rfl⟩ := pu_some hm3
      exact q3 σ2 F3 H3 (.refl S3.ex) S3.take
    | true =>
      rw [if_pos rfl] at hm3 ⊢
      obtain ⟨o1', b4, q4, hm4⟩ := bd_some hm3
      refine ⟨fun σ' H' => ∃ m', m' < k + 1 ∧ W m' σ' H', fun _ _ h => h, ?_⟩
      refine hb c as σ2 F3 H3 b3 S3 o1' b4 q4 _ ?_
      have nx : ∀ c', whileM mc body k c' b4 = some (o, b') → ∀ σ5 F5 H5, Nx as F3 H3 F5 H5 → Stt (as.take (f b4).length) (eN c') (f b4) σ5 F5 H5 → ∃ m', m' < k + 1 ∧ W m' σ5 H5 := fun c' hm' σ5 F5 H5 n5 S5 => by
        rw [el] at S5
        exact ⟨k, Nat.lt_succ_self _, c', b4, F5, (n2.trans n3).trans n5, S5, hm'⟩
      cases o1' with
      | nx c' => exact nx c' hm4
      | ct c' => exact nx c' hm4
      | bk c' =>
        obtain ⟨rfl, rfl⟩ := pu_some hm4
        exact fun σ5 F5 H5 n5 S5 => q3 σ5 F5 H5 n5 S5
      | rt r =>
        obtain ⟨rfl, rfl⟩ := pu_some hm4
        exact fun v F5 H5 n5 o5 r5 => q3 v F5 H5 n5 o5 r5

/-! ### what a for walks -/
theorem ei_list {te : TE} {m : M β β (List α)} (h : Es K te env f m) : Ei K (iList K te) env f m := by
  intro as σ F H b S xs b' hm R q
  refine h as σ F H b S xs b' hm _ fun v F1 H1 n1 o1 r1 => ?_
  obtain ⟨p, vs, rfl, h2, h3⟩ := r1
  refine ⟨p, rfl, ⟨vs, .of (n1.fh _ _ h2)⟩, q _ F1 H1 n1 o1 fun i F2 H2 e1 e2 => ⟨fun x hx => ?_, fun hi => ?_⟩⟩
  · have hp : SqL K H2 p vs := .of (e2 _ _ (e1 _ _ h2))
    obtain ⟨v, hv, hr⟩ := h3.get' hx
    refine ⟨⟨vs, v, hp, hv⟩, fun w H' y => ?_⟩
    obtain ⟨rfl, y2⟩ := y
    have := y2 vs hp
    rw [hv] at this
    cases this
    exact ⟨F2, .refl e2, Rep.mono e1 hr⟩
  · exact ⟨vs, .of (e2 _ _ (e1 _ _ h2)), by rw [← h3.length]; omega⟩
/-- lo, lo + 1, .. below hi -/
def rangeI (lo hi : Int) : List Int := (List.range (hi - lo).toNat).map fun (k : Nat) => lo + (k : Int)
theorem rangeI_get {lo hi : Int} {i : Nat} {x : Int} (h : (rangeI lo hi)[i]? = some x) : x = lo + (i : Int) ∧ i < (hi - lo).toNat := by
  unfold rangeI at h
  rw [List.getElem?_map] at h
  by_cases hi' : i < (hi - lo).toNat
  · rw [List.getElem?_range hi'] at h
    cases h
    exact ⟨rfl, hi'⟩
  · rw [List.getElem?_eq_none (by simpa using hi')] at h
    cases h
theorem itOk_range {lo hi : Int} {F : Hp} : ItOk K (Itr lo (hi - lo).toNat) (rangeI lo hi) F := by
  intro i F2 H2 e1 e2
  refine ⟨fun x hx => ?_, fun h => ?_⟩
  · obtain ⟨rfl, hi'⟩ := rangeI_get hx
    refine ⟨hi', fun v H' y => ?_⟩
    obtain ⟨rfl, rfl⟩ := y
    exact ⟨F2, .refl e2, rfl⟩
  · show (hi - lo).toNat ≤ i
    rw [h]
    simp [rangeI]
def ck62 (i : Int) : Option Int := if -(2 ^ 62) ≤ i ∧ i < 2 ^ 62 then some i else none
theorem ck62_some {i j : Int} (h : ck62 i = some j) : i = j ∧ -(2 ^ 62) ≤ j ∧ j < 2 ^ 62 := by
  unfold ck62 at h
  split at h
  · cases h
    exact ⟨rfl, by assumption⟩
  · cases h
def gRange1 (x : Int × Unit) : Option (List Int) := (ck62 x.1).map fun n => rangeI 0 n
def gRange2 (x : Int × Int × Unit) : Option (List Int) := (ck62 x.1).bind fun a => (ck62 x.2.1).map fun n => rangeI a n
theorem ei_range1 {ta : TA} {m : M β β (Int × Unit)} (h : Ea K ta env f [] m) : Ei K (iRng1 ta) env f (mMapO gRange1 m) := by
  intro as σ F H b S xs b' hm R q
  obtain ⟨⟨n, _⟩, b1, e1, hm⟩ := bd_some hm
  obtain ⟨e2, rfl⟩ := ov_some hm
  unfold gRange1 at e2
  obtain ⟨n', e3, rfl⟩ := Option.map_eq_some_iff.mp e2
  obtain ⟨rfl, h1, h2⟩ := ck62_some e3
  refine h as σ F H b S _ b' e1 _ fun cs vs F1 H1 n1 o1 hl _ r1 => ?_
  have hcs : cs = [] := List.length_eq_zero_iff.mp hl
  subst hcs
  obtain ⟨v, _, rfl, rfl, rfl⟩ := r1
  refine ⟨_, rfl, h1, h2, q _ F1 H1 n1 o1 ?_⟩
  have := itOk_range (K := K) (lo := 0) (hi := n) (F := F1)
  rw [Int.sub_zero] at this
  exact this
theorem ei_range2 {ta : TA} {m : M β β (Int × Int × Unit)} (h : Ea K ta env f [] m) : Ei K (iRng2 ta) env f (mMapO gRange2 m) := by
  intro as σ F H b S xs b' hm R q
  obtain ⟨⟨a, n, _⟩, b1, e1, hm⟩ := bd_some hm
  obtain ⟨e2, rfl⟩ := ov_some hm
  unfold gRange2 at e2
  obtain ⟨a', e3, e4⟩ := Option.bind_eq_some_iff.mp e2
  obtain ⟨n', e5, rfl⟩ := Option.map_eq_some_iff.mp e4
  obtain ⟨rfl, h1, h2⟩ := ck62_some e3
  obtain ⟨rfl, h3, h4⟩ := ck62_some e5
  refine h as σ F H b S _ b' e1 _ fun cs vs F1 H1 n1 o1 hl _ r1 => ?_
  have hcs : cs = [] := List.length_eq_zero_iff.mp hl
  subst hcs
  obtain ⟨v, _, rfl, rfl, w, _, rfl, rfl, rfl⟩ := r1
  exact ⟨_, _, rfl, ⟨h1, h2, h3, h4⟩, q _ F1 H1 n1 o1 itOk_range⟩
/-- a text, sign by sign -/
def signs (x : Tx) : List Tx := x.map fun c => [c]
theorem ei_str {te : TE} {m : M β β Tx} (h : Es K te env f m) : Ei K (iStr te) env f (mMap signs m) := by
  intro as σ F H b S xs b' hm R q
  obtain ⟨x, b1, e1, hm⟩ := bd_some hm
  obtain ⟨rfl, rfl⟩ := pu_some hm
  refine h as σ F H b S x b1 e1 _ fun v F1 H1 n1 o1 r1 => ?_
  have r1' : v = .str (tS x) := r1
  subst r1'
  refine ⟨tS x, rfl, q _ F1 H1 n1 o1 fun i F2 H2 ex1 ex2 => ⟨fun y hy => ?_, fun hi => ?_⟩⟩
  · unfold signs at hy
    rw [List.getElem?_map] at hy
    obtain ⟨c, hc, rfl⟩ := Option.map_eq_some_iff.mp hy
    have hi : i < x.length := (List.getElem?_eq_some_iff.mp hc).1
    refine ⟨by show i < (tS x).cps.size; simpa [tS] using hi, fun v H' y => ?_⟩
    obtain ⟨rfl, d, hd, rfl⟩ := y
    refine ⟨F2, .refl ex2, ?_⟩
    have : d = c := by
      have z : (tS x).cps[i]? = some c := by simpa [tS] using hc
      rw [z] at hd
      exact (Option.some.inj hd).symm
    subst this
    rfl
  · show (tS x).cps.size ≤ i
    rw [hi]
    simp [tS, signs]
theorem ei_enum {m : M β β (List α × Unit)} {ta : TA} (h : Ea K ta env f [] m) : Ei K (iEnum K ta) env f (mMap (fun x => ((List.range x.1.length).map fun (k : Nat) => ((k : Int))).zip x.1) m) := by
  intro as σ F H b S xs b' hm R q
  obtain ⟨⟨x, _⟩, b1, e1, hm⟩ := bd_some hm
  obtain ⟨rfl, rfl⟩ := pu_some hm
  refine h as σ F H b S _ b1 e1 _ fun cs vs F1 H1 n1 o1 hl _ r1 => ?_
  have hcs : cs = [] := List.length_eq_zero_iff.mp hl
  subst hcs
  obtain ⟨v, _, rfl, ⟨p, vs, rfl, h2, h3⟩, rfl⟩ := r1
  refine ⟨p, vs, rfl, .of (n1.fh _ _ h2), q _ F1 H1 n1 o1 fun i F2 H2 ex1 ex2 => ⟨fun y hy => ?_, fun hi => ?_⟩⟩
  · have hp : SqL K H2 p vs := .of (ex2 _ _ (ex1 _ _ h2))
    have hi : i < x.length := by
      have := (List.getElem?_eq_some_iff.mp hy).1
      simp at this
      exact this
    have hx : x[i]? = some x[i] := List.getElem?_eq_getElem hi
    have ey : y = ((i : Int), x[i]) := by
      rw [List.getElem?_eq_getElem (by simpa using hi)] at hy
      have := Option.some.inj hy
      rw [← this]
      simp
    subst ey
    obtain ⟨v, hv, hr⟩ := h3.get' hx
    refine ⟨⟨vs, v, hp, hv⟩, fun w H' y => ?_⟩
    obtain ⟨T, z, rfl, hT, rfl, hz⟩ := y
    have := hz vs hp
    rw [hv] at this
    cases this
    exact ⟨_, .new ex2 hT, T, .int (i : Nat), v, rfl, .of upd_same, rfl, Rep.mono (ex1.trans (.new (ex2.none hT))) hr⟩
  · exact ⟨vs, .of (ex2 _ _ (ex1 _ _ h2)), by rw [hi, ← h3.length]; simp⟩
end
end
end Tw

namespace Tw
open PySem L2

/-! ### comprehensions -/
def wipeE (env : List Sl) : List Nat → List Sl
  | [] => env
  | v :: vs => (wipeE env vs).set v .un
theorem wipeE_len (env : List Sl) : ∀ vs, (wipeE env vs).length = env.length
  | [] => rfl
  | v :: vs => by unfold wipeE; rw [List.length_set, wipeE_len env vs]
theorem EnvOk.setAny {as : List Addr} {env : List Sl} {σ : St} {F : Hp} {i : Nat} {x : Option V} (ok : EnvOk as env σ F) : EnvOk as (env.set i .un) (σ.set i x) F := by
  refine ⟨by rw [List.length_set, List.length_set]; exact ok.1, fun j t q => ?_⟩
  by_cases hj : i = j
  · subst hj
    by_cases hi : i < env.length
    · rw [List.getElem?_set_self hi] at q
      cases q
      trivial
    · rw [List.getElem?_eq_none (by rw [List.length_set]; omega)] at q
      cases q
  · rw [List.getElem?_set_ne hj] at q ⊢
    exact ok.2 j t q
theorem EnvOk.wipe {as : List Addr} {env : List Sl} {σ : St} {F : Hp} (ok : EnvOk as env σ F) : ∀ vs : List Nat, EnvOk as (wipeE env vs) (wipe σ vs) F
  | [] => ok
  | v :: vs => by
    unfold wipeE L2.wipe
    exact (EnvOk.wipe ok vs).setAny
/-- a target of names within vs -/
def TgW (g : TG) (vs : List Nat) : Prop := ∀ (v : V) (σ : St) (H : Hp) (Q : St → Hp → Prop), L2.wipe σ vs = σ → g v σ H Q → g v σ H fun σ2 H2 => L2.wipe σ2 vs = σ ∧ Q σ2 H2
theorem wipe_set {i : Nat} {x : Option V} : ∀ {vs : List Nat} {σ : St}, i ∈ vs → L2.wipe (σ.set i x) vs = L2.wipe σ vs
  | [], _, h => nomatch h
  | v :: vs, σ, h => by
    unfold L2.wipe
    by_cases hi : i ∈ vs
    · rw [wipe_set hi]
    · have e : v = i := by
        rcases List.mem_cons.mp h with z | z
        · exact z.symm
        · exact absurd z hi
      subst e
      have : ∀ (ws : List Nat) (σ : St), v ∉ ws → (L2.wipe (σ.set v x) ws) = (L2.wipe σ ws).set v x := by
        intro ws
        induction ws with
        | nil => intro σ _; rfl
        | cons w ws ih =>
          intro σ hw
          unfold L2.wipe
          rw [ih σ fun z => hw (List.mem_cons_of_mem _ z), List.set_comm _ _ fun z => hw (by rw [z]; exact List.mem_cons_self)]
      rw [this vs σ hi, List.set_set]
theorem tgw_name {i : Nat} {vs : List Nat} (h : i ∈ vs) : TgW (gName i) vs := fun v σ H Q e q => ⟨(wipe_set h).trans e, q⟩
theorem tgw_pair {K : PySem.W.Frag} {i j : Nat} {vs : List Nat} (h : i ∈ vs) (h2 : j ∈ vs) : TgW (gTup K 2 (gCons (gName i) (gCons (gName j) gNil))) vs := fun v σ H Q e q => by
  obtain ⟨a, xs, e1, e2, e3, v1, r1, e4, v2, r2, e5, e6, q⟩ := q
  exact ⟨a, xs, e1, e2, e3, v1, r1, e4, v2, r2, e5, e6, by rw [wipe_set h2, wipe_set h, e], q⟩
theorem wipe_sub {σ : St} : ∀ {ws vs : List Nat}, (∀ x ∈ ws, x ∈ vs) → L2.wipe (L2.wipe σ ws) vs = L2.wipe σ vs
  | [], _, _ => rfl
  | w :: ws, vs, h => by
    rw [show L2.wipe σ (w :: ws) = (L2.wipe σ ws).set w none from rfl, wipe_set (h w List.mem_cons_self)]
    exact wipe_sub fun x hx => h x (List.mem_cons_of_mem _ hx)
theorem frz_new {as : List Addr} {D : Addr} {o0 o : HO} {F1 H1 F2 H2 : Hp} (hD : H1 D = none) (n : Nx (D :: as) F1 (upd H1 D o0) F2 H2) (hF : F2 D = none) (hH : H2 D = some o) : Nx as F1 H1 (upd F2 D o) H2 := by
  have ne : ∀ a, H1 a ≠ none → a ≠ D := fun a h z => h (by rw [z]; exact hD)
  refine ⟨n.ff.trans (.new hF), fun a u h => ?_, fun a u h q => ?_, fun a m h => ?_, fun a h => ?_⟩
  · by_cases ha : a = D
    · subst ha
      rw [upd_same] at h
      rw [← h]
      exact hH
    · rw [upd_ne ha] at h
      exact n.fh a u h
  · have hne : a ≠ D := ne a (by rw [q]; exact fun z => nomatch z)
    refine n.keep a u (fun m => ?_) (by rw [upd_ne hne]; exact q)
    rcases List.mem_cons.mp m with z | z
    · exact hne z
    · exact h z
  · rw [upd_ne (ne a h)]
    exact n.old a (fun z => (List.mem_cons.mp z).elim (ne a h) m) (by rw [upd_ne (ne a h)]; exact h)
  · exact n.there a (by rw [upd_ne (ne a h)]; exact h)
theorem OsOk.frz {as : List Addr} {os : List OV} {F H : Hp} {D : Addr} {o : HO} (ok : OsOk as os F H) (h : D ∉ as) (hF : F D = none) : OsOk as os (upd F D o) H :=
  ⟨ok.1, ok.2.1, fun i a v ha hv => by
    obtain ⟨h1, h2, h3⟩ := ok.2.2 i a v ha hv
    have hne : a ≠ D := fun z => h (by rw [← z]; exact List.mem_of_getElem? ha)
    exact ⟨by rw [upd_ne hne]; exact h1, h2, v.stab (.new hF) rfl h3⟩⟩
theorem OsOk.ne {as : List Addr} {os : List OV} {F H : Hp} {D : Addr} (o1 : OsOk as os F H) (hD : H D = none) : D ∉ as := fun m => by
  obtain ⟨i, h1, h2⟩ := List.mem_iff_getElem.mp m
  have hi' : i < os.length := by rw [← o1.2.1]; exact h1
  exact (o1.2.2 i D os[i] (by rw [List.getElem?_eq_getElem h1, h2]) (List.getElem?_eq_getElem hi')).2.1 hD
theorem OsOk.mut {as : List Addr} {os : List OV} {F H : Hp} {D : Addr} {o : HO} (o6 : OsOk as os F H) (h : D ∉ as) : OsOk as os F (upd H D o) := by
  refine ⟨o6.1, o6.2.1, fun j a v ha ho => ?_⟩
  obtain ⟨h1, h2, h3⟩ := o6.2.2 j a v ha ho
  have hne : a ≠ D := fun z => h (by rw [← z]; exact List.mem_of_getElem? ha)
  exact ⟨h1, by rw [upd_ne hne]; exact h2, v.stab (.refl _) (upd_ne hne) h3⟩
section
variable {K : PySem.W.Frag} {β α γ δ : Type} [Rep K α] [Rep K γ] [Rep K δ] {env : List Sl} {f : β → List OV}
def compM (t : α → M β β Bool) (e : α → M β β γ) : List α → M β β (List γ)
  | [] => pu []
  | x :: xs => bd (t x) fun c => if c = true then bd (e x) fun y => bd (compM t e xs) fun ys => pu (y :: ys) else compM t e xs
theorem compM_len {t : α → M β β Bool} {e : α → M β β γ} : ∀ {xs : List α} {b b' : β} {ys : List γ}, compM t e xs b = some (ys, b') → ys.length ≤ xs.length
  | [], b, b', ys, h => by obtain ⟨rfl, rfl⟩ := pu_some h; exact Nat.le_refl _
  | x :: xs, b, b', ys, h => by
    obtain ⟨c, b1, h1, h⟩ := bd_some h
    cases c with
    | true =>
      rw [if_pos rfl] at h
      obtain ⟨y, b2, h2, h⟩ := bd_some h
      obtain ⟨zs, b3, h3, h⟩ := bd_some h
      obtain ⟨rfl, rfl⟩ := pu_some h
      have := compM_len h3
      simp only [List.length_cons]
      omega
    | false =>
      rw [if_neg Bool.false_ne_true] at h
      have := compM_len h
      simp only [List.length_cons]
      omega
/-- [e for x in .. if t] -/
def mLc (mi : M β β (List α)) (t : α → M β β Bool) (e : α → M β β γ) : M β β (List γ) := bd (mMapO chk mi) fun xs => compM t e xs
/-- an owned list ahead of all others -/
theorem es_lc {wi : TI} {g : TG} {tt : TT} {te : TE} {vs : List Nat} {mi : M β β (List α)} {e1 : α → List Sl} {t : α → M β β Bool} {e : α → M β β γ} (hi : Ei K wi env f mi) (hg : Tg K g (wipeE env vs) e1) (hw : TgW g vs) (ht : ∀ x, Et tt (e1 x) f (t x)) (he : ∀ x, Es K te (e1 x) f (e x)) :
    Es K (tLc wi g tt te vs) env f (mLc mi t e) := by
  intro as σ F H b S zs b' hm Q q
  obtain ⟨xs, b1, e1', hm⟩ := bd_some hm
  obtain ⟨xs', b1', e2, e3⟩ := bd_some e1'
  obtain ⟨e4, rfl⟩ := ov_some e3
  obtain ⟨rfl, hz⟩ := chk_some e4
  refine hi as σ F H b S xs' b1 e2 _ fun J F1 H1 n1 o1 it D hD => ?_
  have hDF : F1 D = none := n1.fh.none hD
  have hDas : D ∉ as := o1.ne hD
  let W : Nat → Nat → Hp → Prop := fun i n H' => n = xs'.length - i ∧ i ≤ xs'.length ∧ ∃ (b2 : β) (F' : Hp) (acc : List γ) (accv : List V) (rest : List γ), Nx (D :: as) F1 (upd H1 D (.lst [])) F' H' ∧ F' D = none ∧ H' D = some (.lst accv) ∧ acc.length ≤ i ∧ RpAll (Rep.rp K F') acc accv ∧ OsOk as (f b2) F' H' ∧ compM t e (xs'.drop i) b2 = some (rest, b') ∧ zs = acc ++ rest
  have n0 : Nx [] F1 H1 F1 (upd H1 D (.lst [])) := Nx.newO n1.fh hD
  refine ⟨W, ⟨_, rfl, Nat.zero_le _, b1, F1, [], [], zs, .refl n0.fh, hDF, upd_same, Nat.zero_le _, trivial, o1.step n0, hm, rfl⟩, ?_⟩
  rintro i n H2 ⟨rfl, hin, b2, F2, acc, accv, rest, n2, hF2, hH2, hal, hacc, os2, hm2, hzs⟩
  obtain ⟨t1, t2⟩ := it i F2 H2 n2.ff n2.fh
  have envW : EnvOk as (wipeE env vs) (wipe σ vs) F2 := ((S.env.mono n1.ff).mono n2.ff).wipe vs
  by_cases hlt : i < xs'.length
  · refine .inr ?_
    obtain ⟨g1, g2⟩ := t1 xs'[i] (List.getElem?_eq_getElem hlt)
    rw [List.drop_eq_getElem_cons hlt] at hm2
    obtain ⟨c, b3, q3, hm3⟩ := bd_some hm2
    refine ⟨g1, fun H' => ∃ m', m' < xs'.length - i ∧ W (i + 1) m' H', fun _ h => h, fun v H' y => ?_⟩
    obtain ⟨F', n4, r4⟩ := g2 v H' y
    refine hw _ _ _ _ (wipe_sub fun _ h => h) (hg as _ F' H' xs'[i] v n4.fh (envW.mono n4.ff) r4 _ fun σ' ok => ?_)
    have hH' : H' D = some (.lst accv) := n4.hh _ _ hH2
    have hF' : F' D = none := (n4.old D (fun m => nomatch m) (by rw [hH2]; exact fun z => nomatch z)).trans hF2
    refine ht xs'[i] as σ' F' H' b2 ⟨n4.fh, os2.step n4, ok⟩ c b3 q3 _ fun F5 H5 n5 o5 => ?_
    have hH5 : H5 D = some (.lst accv) := n5.keep _ _ hDas hH'
    have hF5 : F5 D = none := (n5.old D hDas (by rw [hH']; exact fun z => nomatch z)).trans hF'
    have n25 := (n2.trans n4.nil).trans (n5.sub fun x hx => List.mem_cons_of_mem D hx)
    cases c with
    | false =>
      rw [if_neg Bool.false_ne_true] at hm3 ⊢
      exact ⟨_, by omega, rfl, hlt, b3, F5, acc, accv, rest, n25, hF5, hH5, by omega, hacc.imp fun _ _ r => Rep.mono (n4.ff.trans n5.ff) r, o5, hm3, hzs⟩
    | true =>
      rw [if_pos rfl] at hm3 ⊢
      obtain ⟨y', b4, q4, hm4⟩ := bd_some hm3
      obtain ⟨ys, b5, q5, hm5⟩ := bd_some hm4
      obtain ⟨rfl, rfl⟩ := pu_some hm5
      refine he xs'[i] as σ' F5 H5 b3 ⟨n5.fh, o5, ok.mono n5.ff⟩ y' b4 q4 _ fun u F6 H6 n6 o6 r6 => ?_
      have hH6 : H6 D = some (.lst accv) := n6.keep _ _ hDas hH5
      have hF6 : F6 D = none := (n6.old D hDas (by rw [hH5]; exact fun z => nomatch z)).trans hF5
      have n7 : Nx (D :: as) F6 H6 F6 (upd H6 D (.lst (accv ++ [u]))) := Nx.mut n6.fh List.mem_cons_self hF6
      refine ⟨accv, hH6, ?_, _, (by omega : xs'.length - (i + 1) < xs'.length - i), rfl, hlt, b4, F6, acc ++ [y'], accv ++ [u], ys, (n25.trans (n6.sub fun x hx => List.mem_cons_of_mem D hx)).trans n7, hF6, upd_same, by rw [List.length_append, List.length_singleton]; omega, ?_, ?_, q5, by rw [hzs]; simp⟩
      · rw [← hacc.length]
        have : i < xs'.length := hlt
        have hs := sizeLine_eq
        omega
      · exact (hacc.imp fun _ _ r => Rep.mono ((n4.ff.trans n5.ff).trans n6.ff) r).app ⟨r6, trivial⟩
      · exact o6.mut hDas
  · have ei : i = xs'.length := by omega
    subst ei
    rw [List.drop_length] at hm2
    obtain ⟨rfl, rfl⟩ := pu_some hm2
    rw [List.append_nil] at hzs
    subst hzs
    refine .inl ⟨t2 rfl, ?_⟩
    -- the list is frozen
    have n3 : Nx as F1 H1 (upd F2 D (.lst accv)) H2 := frz_new hD n2 hF2 hH2
    exact q _ _ _ (n1.trans n3) (os2.frz hDas hF2) ⟨D, accv, rfl, upd_same, hacc.imp fun _ _ => Rep.mono (.new hF2)⟩
end
end Tw

namespace Tw
open PySem L2

/-! ### defs: promises, bodies, calls -/
section
variable {K : PySem.W.Frag}
def sp (K : PySem.W.Frag) {α ρ βc : Type} [RepA K α] [Rep K ρ] (fc : βc → List OV) (mc : α → M βc βc ρ) : Sp := fun vs H Q _ => ∃ (cs : List Addr) (dv : List V) (F : Hp) (b b' : βc) (x : α) (r : ρ), vs = cs.map V.ref ++ dv ∧ Ex F H ∧ OsOk cs (fc b) F H ∧ RepA.ra K F x dv ∧ mc x b = some (r, b') ∧
  ∀ v F' H', Nx cs F H F' H' → OsOk cs (fc b') F' H' → Rep.rp K F' r v → Q v H'
theorem sp_len {α ρ βc : Type} [RepA K α] [Rep K ρ] {fc : βc → List OV} {mc : α → M βc βc ρ} {n : Nat} (h : ∀ b, (fc b).length + RepA.ar K α = n) : ∀ vs H Q E, sp K fc mc vs H Q E → vs.length = n := fun vs H Q E ⟨cs, dv, F, b, b', x, r, e, _, o, a, _⟩ => by
  rw [e, List.length_append, List.length_map, o.2.1, RepA.len a, h]
def retM {β γ ρ : Type} (m : M β β (Fl γ ρ)) : M β β ρ := bd m fun o => match o with
  | .rt r => pu r
  | _ => fun _ => none
def retU {β γ : Type} (m : M β β (Fl γ Unit)) : M β β Unit := bd m fun o => match o with
  | .rt r => pu r
  | .nx _ => pu ()
  | _ => fun _ => none
/-- the slots at the entry: k owned things, the arguments, the others -/
def env0 (k : Nat) (es : List Sl) (n : Nat) : List Sl := (List.range k).map Sl.own ++ (es ++ List.replicate (n - k - es.length) .un)
theorem env0_ok {α : Type} [RepA K α] {cs : List Addr} {F : Hp} {x : α} {dv : List V} {N : List Str} (ha : RepA.ra K F x dv) (hn : cs.length + RepA.ar K α ≤ N.length) : EnvOk cs (env0 cs.length (RepA.env K x) N.length) (L2.start N (cs.map V.ref ++ dv)) F := by
  obtain ⟨z1, z2⟩ := RepA.envOk cs ha
  have z3 := RepA.len ha
  unfold env0 L2.start
  refine ⟨by simp only [List.length_append, List.length_map, List.length_replicate, List.length_range]; omega, fun i s e => ?_⟩
  rw [List.map_append, List.map_map, List.append_assoc]
  by_cases h1 : i < cs.length
  · rw [List.getElem?_append_left (by simpa using h1)] at e ⊢
    rw [List.getElem?_map, List.getElem?_range h1] at e
    cases e
    exact ⟨cs[i], List.getElem?_eq_getElem h1, by rw [List.getElem?_map, List.getElem?_eq_getElem h1]; rfl⟩
  · rw [List.getElem?_append_right (by simpa using Nat.le_of_not_lt h1)] at e ⊢
    simp only [List.length_map, List.length_range] at e ⊢
    by_cases h2 : i - cs.length < dv.length
    · rw [List.getElem?_append_left (by rw [z1]; exact h2)] at e
      rw [List.getElem?_append_left (by simpa using h2), List.getElem?_map]
      exact z2 _ s e
    · rw [List.getElem?_append_right (by rw [z1]; omega)] at e
      by_cases h4 : i - cs.length - (RepA.env K x).length < N.length - cs.length - (RepA.env K x).length
      · rw [List.getElem?_replicate, if_pos h4] at e
        cases e
        trivial
      · rw [List.getElem?_replicate, if_neg h4] at e
        cases e
theorem run_body {α ρ βc γ : Type} [RepA K α] [Rep K ρ] {fc : βc → List OV} {mc : α → M βc βc ρ} {m : α → M βc βc (Fl γ ρ)} {eN : α → γ → List Sl} {t : TS} {N : List Str} {k : Nat} {vs : List V} {H : Hp} {Q : VK} {E : XK} (h : sp K fc mc vs H Q E) (hm : ∀ x, mc x = retM (m x))
    (n a : Nat) (hk : ∀ b, (fc b).length = k) (hN : N.length = n) (har : RepA.ar K α = a) (hn : k + a ≤ n) (hs : ∀ x, Ss K t (env0 k (RepA.env K x) n) fc fc (m x) (eN x)) : t { nx := fun _ H' => Q .non H', rt := Q } (L2.start N vs) H := by
  subst hN har
  obtain ⟨cs, dv, F, b, b', x, r, rfl, ex, os, ha, e, q⟩ := h
  have hc : cs.length = k := os.2.1.trans (hk b)
  rw [hm] at e
  obtain ⟨o, b1, e1, e2⟩ := bd_some e
  have ev := env0_ok (N := N) ha (by rw [hc]; exact hn)
  rw [hc] at ev
  refine hs x cs _ F H b ⟨ex, os, ev⟩ o b1 e1 _ ?_
  cases o with
  | rt r' =>
    obtain ⟨rfl, rfl⟩ := pu_some e2
    intro v F' H' n o' rv
    rw [List.take_of_length_le (by rw [os.2.1, hk, hk]; exact Nat.le_refl _)] at o'
    exact q v F' H' n o' rv
  | nx g => cases e2
  | bk g => cases e2
  | ct g => cases e2
theorem run_bodyU {α βc γ : Type} [RepA K α] {fc : βc → List OV} {mc : α → M βc βc Unit} {m : α → M βc βc (Fl γ Unit)} {eN : α → γ → List Sl} {t : TS} {N : List Str} {k : Nat} {vs : List V} {H : Hp} {Q : VK} {E : XK} (h : sp K fc mc vs H Q E) (hm : ∀ x, mc x = retU (m x))
    (n a : Nat) (hk : ∀ b, (fc b).length = k) (hN : N.length = n) (har : RepA.ar K α = a) (hn : k + a ≤ n) (hs : ∀ x, Ss K t (env0 k (RepA.env K x) n) fc fc (m x) (eN x)) : t { nx := fun _ H' => Q .non H', rt := Q } (L2.start N vs) H := by
  subst hN har
  obtain ⟨cs, dv, F, b, b', x, r, rfl, ex, os, ha, e, q⟩ := h
  have hc : cs.length = k := os.2.1.trans (hk b)
  rw [hm] at e
  obtain ⟨o, b1, e1, e2⟩ := bd_some e
  have ev := env0_ok (N := N) ha (by rw [hc]; exact hn)
  rw [hc] at ev
  refine hs x cs _ F H b ⟨ex, os, ev⟩ o b1 e1 _ ?_
  cases o with
  | rt r' =>
    obtain ⟨rfl, rfl⟩ := pu_some e2
    intro v F' H' n o' rv
    rw [List.take_of_length_le (by rw [os.2.1, hk, hk]; exact Nat.le_refl _)] at o'
    exact q v F' H' n o' rv
  | nx g =>
    obtain ⟨rfl, rfl⟩ := pu_some e2
    intro σ' F' H' n S'
    have o' := S'.os
    rw [List.take_of_length_le (by rw [os.2.1, hk, hk]; exact Nat.le_refl _)] at o'
    exact q .non F' H' n o' rfl
  | bk g => cases e2
  | ct g => cases e2

/-! calls -/
def setAll : List OV → List Nat → List OV → List OV
  | os, k :: ks, c :: cs => setAll (os.set k c) ks cs
  | os, _, _ => os
theorem setAll_len : ∀ {ks : List Nat} {cs os : List OV}, (setAll os ks cs).length = os.length
  | [], cs, _ => by cases cs <;> rfl
  | _ :: _, [], _ => rfl
  | k :: ks, c :: cs, os => by
    show (setAll (os.set k c) ks cs).length = _
    rw [setAll_len, List.length_set]
theorem setAll_get {j : Nat} : ∀ {ks : List Nat} {cs os : List OV}, (j ∉ ks → (setAll os ks cs)[j]? = os[j]?)
  | [], cs, os, _ => by cases cs <;> rfl
  | _ :: _, [], _, _ => rfl
  | k :: ks, c :: cs, os, h => by
    show (setAll (os.set k c) ks cs)[j]? = _
    rw [setAll_get fun m => h (List.mem_cons_of_mem _ m), List.getElem?_set_ne fun z => h (by rw [z]; exact List.mem_cons_self)]
theorem setAll_at : ∀ {ks : List Nat} {cs os : List OV} {i k : Nat}, ks.Nodup → ks[i]? = some k → i < cs.length → k < os.length → (setAll os ks cs)[k]? = cs[i]?
  | [], _, _, _, _, _, h, _, _ => by simp at h
  | _ :: _, [], _, _, _, _, _, h, _ => by simp at h
  | k0 :: ks, c :: cs, os, 0, k, nd, h, _, hk => by
    have e : k0 = k := by simpa using h
    subst e
    show (setAll (os.set k0 c) ks cs)[k0]? = some c
    rw [setAll_get (List.nodup_cons.mp nd).1, List.getElem?_set_self hk]
  | k0 :: ks, c :: cs, os, i + 1, k, nd, h, hi, hk => by
    show (setAll (os.set k0 c) ks cs)[k]? = _
    rw [setAll_at (List.nodup_cons.mp nd).2 (i := i) (by simpa using h) (by simpa using hi) (by rw [List.length_set]; exact hk)]
    simp
def zoom {β βc ρ : Type} (get : β → βc) (put : β → βc → β) (m : M βc βc ρ) : M β β ρ := fun b => (m (get b)).map fun r => (r.1, put b r.2)
variable {β : Type} {env : List Sl} {f : β → List OV}
theorem es_call {α ρ βc : Type} [RepA K α] [Rep K ρ] {fc : βc → List OV} {mc : α → M βc βc ρ} {get : β → βc} {put : β → βc → β} {ks : List Nat} {E : XK} {ta : TA} {ma : M β β α} (ha : Ea K ta env f ks ma)
    (hg : ∀ b, (fc (get b)).map some = ks.map fun k => (f b)[k]?) (hp : ∀ b c, f (put b c) = setAll (f b) ks (fc c)) (hk : ∀ c, (fc c).length = ks.length) (nd : ks.Nodup := by decide) :
    Es K (tCall (sp K fc mc) [] E ta) env f (bd ma fun x => zoom get put (mc x)) := by
  intro as σ F H b S r b' hm Q q
  obtain ⟨x, b1, e1, hm⟩ := bd_some hm
  unfold zoom at hm
  obtain ⟨⟨r', c'⟩, e2, e3⟩ := Option.map_eq_some_iff.mp hm
  cases e3
  refine ha as σ F H b S x b1 e1 _ fun cs vs F1 H1 n1 o1 hl hc ra => ?_
  have hcs : ∀ {i : Nat} {a : Addr}, cs[i]? = some a → ∃ k, ks[i]? = some k ∧ as[k]? = some a ∧ k < as.length := fun {i a} h => by
    have hi : i < ks.length := by rw [← hl]; exact (List.getElem?_eq_some_iff.mp h).1
    obtain ⟨z1, z2⟩ := hc i ks[i] (List.getElem?_eq_getElem hi)
    exact ⟨ks[i], List.getElem?_eq_getElem hi, by rw [← z1]; exact h, z2⟩
  have fget : ∀ {i k : Nat}, ks[i]? = some k → (fc (get b1))[i]? = (f b1)[k]? := fun {i k} h => by
    have := congrArg (fun l : List (Option OV) => l[i]?) (hg b1)
    simp only [List.getElem?_map, h, Option.map_some] at this
    cases e : (fc (get b1))[i]? with
    | none => rw [e] at this; cases this
    | some o => rw [e] at this; exact Option.some.inj this
  have ndc : cs.Nodup := by
    rw [List.nodup_iff_pairwise_ne, List.pairwise_iff_getElem]
    intro i j hi hj hij z
    obtain ⟨k1, a1, a2, a3⟩ := hcs (List.getElem?_eq_getElem hi)
    obtain ⟨k2, b1', b2', b3'⟩ := hcs (List.getElem?_eq_getElem hj)
    rw [z] at a2
    have ek : k1 = k2 := by
      have h1 := (List.getElem?_eq_some_iff.mp a2)
      have h2 := (List.getElem?_eq_some_iff.mp b2')
      obtain ⟨p1, q1⟩ := h1
      obtain ⟨p2, q2⟩ := h2
      exact (List.getElem_inj o1.1).mp (q1.trans q2.symm)
    subst ek
    have h1 := (List.getElem?_eq_some_iff.mp a1)
    have h2 := (List.getElem?_eq_some_iff.mp b1')
    obtain ⟨p1, q1⟩ := h1
    obtain ⟨p2, q2⟩ := h2
    exact absurd ((List.getElem_inj nd).mp (q1.trans q2.symm)) (by omega)
  have okc : OsOk cs (fc (get b1)) F1 H1 := ⟨ndc, by rw [hl, hk], fun i a o h1 h2 => by
    obtain ⟨k, a1, a2, a3⟩ := hcs h1
    rw [fget a1] at h2
    exact o1.2.2 k a o a2 h2⟩
  show sp K fc mc (cs.map V.ref ++ vs ++ []) H1 Q E
  rw [List.append_nil]
  refine ⟨cs, vs, F1, get b1, c', x, r', rfl, n1.fh, okc, ra, e2, fun v F2 H2 n2 o2 rv => ?_⟩
  have sub : ∀ y ∈ cs, y ∈ as := fun y hy => by
    obtain ⟨i, hi⟩ := List.mem_iff_getElem?.mp hy
    obtain ⟨k, _, a2, _⟩ := hcs hi
    exact List.mem_of_getElem? a2
  refine q v F2 H2 (n1.trans (n2.sub sub)) ?_ rv
  rw [hp]
  refine ⟨o1.1, by rw [setAll_len]; exact o1.2.1, fun j a o h1 h2 => ?_⟩
  have hj : j < as.length := (List.getElem?_eq_some_iff.mp h1).1
  by_cases hm : j ∈ ks
  · obtain ⟨i, hi⟩ := List.mem_iff_getElem?.mp hm
    have hil : i < ks.length := (List.getElem?_eq_some_iff.mp hi).1
    rw [setAll_at nd hi (by rw [hk]; exact hil) (by rw [← o1.2.1]; exact hj)] at h2
    obtain ⟨z1, z2⟩ := hc i j hi
    exact o2.2.2 i a o (by rw [z1]; exact h1) h2
  · rw [setAll_get hm] at h2
    obtain ⟨h3, h4, h5⟩ := o1.2.2 j a o h1 h2
    have hna : a ∉ cs := fun hy => by
      obtain ⟨i, hi⟩ := List.mem_iff_getElem?.mp hy
      obtain ⟨k, a1, a2, a3⟩ := hcs hi
      have ek : k = j := by
        obtain ⟨p1, q1⟩ := List.getElem?_eq_some_iff.mp a2
        obtain ⟨p2, q2⟩ := List.getElem?_eq_some_iff.mp h1
        exact (List.getElem_inj o1.1).mp (q1.trans q2.symm)
      subst ek
      exact hm (List.mem_of_getElem? a1)
    refine ⟨(n2.old a hna h4).trans h3, n2.there a h4, o.stab n2.ff ?_ h5⟩
    cases e : H1 a with
    | none => exact absurd e h4
    | some u => exact n2.keep a u hna e
/-- a def that is handed no owned thing -/
abbrev f0 : Unit → List OV := fun _ => []
theorem es_callP {α ρ : Type} [RepA K α] [Rep K ρ] {mc : α → M Unit Unit ρ} {E : XK} {ta : TA} {ma : M β β α} (ha : Ea K ta env f [] ma) :
    Es K (tCall (sp K f0 mc) [] E ta) env f (bd ma fun x => zoom (fun _ => ()) (fun b _ => b) (mc x)) := es_call ha (fun _ => rfl) (fun _ _ => rfl) (fun _ => rfl)

/-! ### owned lists -/
variable {α γ : Type} [Rep K α] [Rep K γ]
def ovL (K : PySem.W.Frag) {α : Type} [Rep K α] (l : List α) : OV := ⟨fun F H a => ∃ vs, H a = some (.lst vs) ∧ RpAll (Rep.rp K F) l vs, fun e h ⟨vs, h1, h2⟩ => ⟨vs, by rw [h]; exact h1, h2.imp fun _ _ => Rep.mono e⟩⟩
variable {β1 β2 ρ : Type} [Rep K ρ] {f1 : β1 → List OV} {f2 : β2 → List OV} {eN : γ → List Sl}
theorem EnvOk.own {as : List Addr} {env : List Sl} {σ : St} {F : Hp} {i : Nat} {p : Addr} (ok : EnvOk as env σ F) : EnvOk (as ++ [p]) (env.set i (.own as.length)) (σ.set i (some (.ref p))) F := by
  have ok1 : EnvOk (as ++ [p]) env σ F := ⟨ok.1, fun j s e => by
    have := ok.2 j s e
    cases s with
    | un => trivial
    | dat q m => exact this
    | own k =>
      obtain ⟨a, h1, h2⟩ := this
      exact ⟨a, by rw [List.getElem?_append_left (List.getElem?_eq_some_iff.mp h1).1]; exact h1, h2⟩⟩
  exact ok1.set fun _ => ⟨p, by simp, rfl⟩
def extF (K : PySem.W.Frag) {β α : Type} [Rep K α] (f : β → List OV) : β × List α → List OV := fun b => f b.1 ++ [ovL K b.2]
def newM {β α β2 δ : Type} (m : M (β × List α) β2 δ) : M β β2 δ := fun b => m (b, [])
def frzM {β α β2 δ : Type} (m : List α → M β β2 δ) : M (β × List α) β2 δ := fun b => m b.2 b.1
/-- x = []; the rest, in which x is owned, the last of all -/
theorem ss_new {γ : Type} {eN : γ → List Sl} {i k : Nat} {tr : TS} {mr : M (β × List α) β2 (Fl γ ρ)} (hk : ∀ b, (f b).length = k) (h2 : ∀ b, (f2 b).length ≤ k) (hr : Ss K tr (env.set i (.own k)) (extF K f) f2 mr eN) :
    Ss K (tSeq (tAsg (tLst tNil) (gName i)) tr) env f f2 (newM mr) eN := by
  intro as σ F H b S o b' hm D q
  refine ⟨Nat.zero_le _, fun p hp => ?_⟩
  have n1 : Nx [] F H F (upd H p (.lst [])) := Nx.newO S.ex hp
  have hpas := S.os.ne hp
  have hl : as.length = k := S.os.2.1.trans (hk b)
  have hF : F p = none := S.ex.none hp
  have o1 : OsOk (as ++ [p]) (f b ++ [ovL K ([] : List α)]) F (upd H p (.lst [])) := by
    have o := S.os.mut (o := .lst []) hpas
    refine ⟨?_, by rw [List.length_append, List.length_append, o.2.1]; rfl, fun j a v h1 h2 => ?_⟩
    · rw [List.nodup_append]
      exact ⟨o.1, by simp, fun x hx y hy => by
        have : y = p := by simpa using hy
        subst this
        exact fun z => hpas (by rw [← z]; exact hx)⟩
    · by_cases hj : j < as.length
      · rw [List.getElem?_append_left hj] at h1
        rw [List.getElem?_append_left (by rw [← S.os.2.1]; exact hj)] at h2
        exact o.2.2 j a v h1 h2
      · rw [List.getElem?_append_right (by omega)] at h1
        rw [List.getElem?_append_right (by rw [← S.os.2.1]; omega)] at h2
        have hj0 : j - as.length = 0 := by
          have := (List.getElem?_eq_some_iff.mp h1).1
          simp at this
          omega
        rw [hj0] at h1
        rw [← S.os.2.1, hj0] at h2
        cases h1
        cases h2
        exact ⟨hF, by rw [upd_same]; exact nofun, [], upd_same, trivial⟩
  have ev := (S.env.own (i := i) (p := p))
  rw [hl] at ev
  refine hr (as ++ [p]) _ F (upd H p (.lst [])) (b, []) ⟨n1.fh, o1, ev⟩ o b' hm D ?_
  have back : ∀ {F' H'}, Nx (as ++ [p]) F (upd H p (.lst [])) F' H' → Nx as F H F' H' := fun {F' H'} n => by
    have ne : ∀ a, H a ≠ none → a ≠ p := fun a h z => h (by rw [z]; exact hp)
    refine ⟨n.ff, n.fh, fun a u h e => ?_, fun a m h => n.old a (fun z => (List.mem_append.mp z).elim m fun z => ne a h (by simpa using z)) (by rw [upd_ne (ne a h)]; exact h), fun a h => n.there a (by rw [upd_ne (ne a h)]; exact h)⟩
    have hne : a ≠ p := ne a (by rw [e]; exact fun z => nomatch z)
    refine n.keep a u (fun m => ?_) (by rw [upd_ne hne]; exact e)
    rcases List.mem_append.mp m with z | z
    · exact h z
    · exact hne (by simpa using z)
  have tk : ∀ b : β2, (as ++ [p]).take (f2 b).length = as.take (f2 b).length := fun b => List.take_append_of_le_length (by rw [hl]; exact h2 b)
  cases o with
  | nx g => exact fun σ' F' H' n' S' => q σ' F' H' (back n') (by rw [← tk]; exact S')
  | bk g => exact fun σ' F' H' n' S' => q σ' F' H' (back n') (by rw [← tk]; exact S')
  | ct g => exact fun σ' F' H' n' S' => q σ' F' H' (back n') (by rw [← tk]; exact S')
  | rt r => exact fun v F' H' n' o' => q v F' H' (back n') (by rw [← tk]; exact o')
/-- an owned thing's new state -/
theorem OsOk.put {as : List Addr} {os : List OV} {F H : Hp} {k : Nat} {p : Addr} {o : HO} {ow : OV} (ok : OsOk as os F H) (hp : as[k]? = some p) (h : ow.own F (upd H p o) p) : OsOk as (os.set k ow) F (upd H p o) := by
  refine ⟨ok.1, by rw [List.length_set]; exact ok.2.1, fun j a v h1 h2 => ?_⟩
  by_cases hj : k = j
  · subst hj
    rw [hp] at h1
    cases h1
    have hk : k < os.length := by rw [← ok.2.1]; exact (List.getElem?_eq_some_iff.mp hp).1
    rw [List.getElem?_set_self hk] at h2
    cases h2
    obtain ⟨z1, _, _⟩ := ok.2.2 k p os[k] hp (List.getElem?_eq_getElem hk)
    exact ⟨z1, by rw [upd_same]; exact nofun, h⟩
  · rw [List.getElem?_set_ne hj] at h2
    obtain ⟨z1, z2, z3⟩ := ok.2.2 j a v h1 h2
    have hne : a ≠ p := fun z => by
      subst z
      obtain ⟨p1, q1⟩ := List.getElem?_eq_some_iff.mp hp
      obtain ⟨p2, q2⟩ := List.getElem?_eq_some_iff.mp h1
      exact hj ((List.getElem_inj ok.1).mp (q1.trans q2.symm))
    exact ⟨z1, by rw [upd_ne hne]; exact z2, v.stab (.refl _) (upd_ne hne) z3⟩
theorem Stt.at_ {as : List Addr} {env : List Sl} {os : List OV} {σ : St} {F H : Hp} {i k : Nat} {ow : OV} (S : Stt as env os σ F H) (hi : env[i]? = some (.own k)) (hk : os[k]? = some ow) : ∃ p, as[k]? = some p ∧ σ[i]? = some (some (.ref p)) ∧ F p = none ∧ p ∈ as ∧ ow.own F H p := by
  obtain ⟨p, h1, h2⟩ := S.env.2 i _ hi
  obtain ⟨z1, _, z3⟩ := S.os.2.2 k p ow h1 hk
  exact ⟨p, h1, h2, z1, List.mem_of_getElem? h1, z3⟩
/-- x.append(e); the rest -/
def gApp {α : Type} (l : List α) (x : α) : Option (List α) := if l.length < line then some (l ++ [x]) else none
def mUpd {β α δ : Type} (get : β → α) (put : β → α → β) (g : α → δ → Option α) (x : δ) : M β β Unit := fun b => (g (get b) x).map fun l => ((), put b l)
theorem ss_app {i k : Nat} {te : TE} {tr : TS} {ma : M β β α} {get : β → List α} {put : β → List α → β} {mr : M β β2 (Fl γ ρ)} (hi : env[i]? = some (.own k)) (hg : ∀ b, (f b)[k]? = some (ovL K (get b))) (hp : ∀ b l, f (put b l) = (f b).set k (ovL K l))
    (ha : Es K te env f ma) (hr : Ss K tr env f f2 mr eN) :
    Ss K (tSeq (tDrop (tBM K "list" rAppend (tVar i) (tCons te tNil))) tr) env f f2 (bd (bd ma (mUpd get put gApp)) fun _ => mr) eN := by
  intro as σ F H b S o b' hm D q
  obtain ⟨_, b2, e2, hm⟩ := bd_some hm
  obtain ⟨x, b1, e1, e2⟩ := bd_some e2
  unfold mUpd at e2
  obtain ⟨l, e3, e4⟩ := Option.map_eq_some_iff.mp e2
  cases e4
  unfold gApp at e3
  split at e3
  · rename_i hlt
    cases e3
    obtain ⟨p, h1, h2, h3, h4, vs0, h5, _⟩ := S.at_ hi (hg b)
    refine ⟨.ref p, h2, .inl ⟨rfl, vs0, .of h5⟩, ?_⟩
    refine ha as σ F H b S x b1 e1 _ fun v F1 H1 n1 o1 r1 => ?_
    have S1 := S.step n1 o1
    obtain ⟨p', h1', h2', h3', h4', vs, h5', h6'⟩ := S1.at_ hi (hg b1)
    rw [h1] at h1'
    cases h1'
    refine ⟨p, vs, v, rfl, rfl, h5', by rw [← h6'.length, sizeLine_eq]; exact hlt, ?_⟩
    have n2 : Nx as F1 H1 F1 (upd H1 p (.lst (vs ++ [v]))) := Nx.mut n1.fh h4' h3'
    have o2 := o1.put (o := .lst (vs ++ [v])) (ow := ovL K (get b1 ++ [x])) h1 ⟨_, upd_same, h6'.app ⟨r1, trivial⟩⟩
    rw [← hp] at o2
    exact hr as σ F1 _ _ ⟨n2.fh, o2, S1.env⟩ o b' hm D ((q.step n1).step n2)
  · cases e3
/-- x.extend(e); the rest -/
def gExt {α : Type} (l : List α) (x : List α) : Option (List α) := if l.length + x.length ≤ line then some (l ++ x) else none
theorem ss_ext {i k : Nat} {te : TE} {tr : TS} {ma : M β β (List α)} {get : β → List α} {put : β → List α → β} {mr : M β β2 (Fl γ ρ)} (hi : env[i]? = some (.own k)) (hg : ∀ b, (f b)[k]? = some (ovL K (get b))) (hp : ∀ b l, f (put b l) = (f b).set k (ovL K l))
    (ha : Es K te env f ma) (hr : Ss K tr env f f2 mr eN) :
    Ss K (tSeq (tDrop (tBM K "list" rExtend (tVar i) (tCons te tNil))) tr) env f f2 (bd (bd ma (mUpd get put gExt)) fun _ => mr) eN := by
  intro as σ F H b S o b' hm D q
  obtain ⟨_, b2, e2, hm⟩ := bd_some hm
  obtain ⟨x, b1, e1, e2⟩ := bd_some e2
  unfold mUpd at e2
  obtain ⟨l, e3, e4⟩ := Option.map_eq_some_iff.mp e2
  cases e4
  unfold gExt at e3
  split at e3
  · rename_i hlt
    cases e3
    obtain ⟨p, h1, h2, h3, h4, vs0, h5, _⟩ := S.at_ hi (hg b)
    refine ⟨.ref p, h2, .inl ⟨rfl, vs0, .of h5⟩, ?_⟩
    refine ha as σ F H b S x b1 e1 _ fun v F1 H1 n1 o1 r1 => ?_
    have S1 := S.step n1 o1
    obtain ⟨p', h1', h2', h3', h4', vs, h5', h6'⟩ := S1.at_ hi (hg b1)
    rw [h1] at h1'
    cases h1'
    obtain ⟨z, ws, rfl, hz, rz⟩ := r1
    refine ⟨p, z, vs, ws, rfl, rfl, h5', n1.fh _ _ hz, by rw [← h6'.length, ← rz.length, sizeLine_eq]; exact hlt, ?_⟩
    have n2 : Nx as F1 H1 F1 (upd H1 p (.lst (vs ++ ws))) := Nx.mut n1.fh h4' h3'
    have o2 := o1.put (o := .lst (vs ++ ws)) (ow := ovL K (get b1 ++ x)) h1 ⟨_, upd_same, h6'.app rz⟩
    rw [← hp] at o2
    exact hr as σ F1 _ _ ⟨n2.fh, o2, S1.env⟩ o b' hm D ((q.step n1).step n2)
  · cases e3
def noOwn (k : Nat) : List Sl → Bool
  | [] => true
  | .own j :: r => !(j == k) && noOwn k r
  | _ :: r => noOwn k r
theorem noOwn_get {k : Nat} : ∀ {e : List Sl} (j : Nat), noOwn k e = true → e[j]? ≠ some (.own k)
  | [], j, _, h => by simp at h
  | s :: r, 0, h, q => by
    have e : s = .own k := by simpa using q
    subst e
    simp [noOwn] at h
  | s :: r, j + 1, h, q => by
    refine noOwn_get (e := r) j ?_ (by simpa using q)
    cases s with
    | own i => exact (Bool.and_eq_true_iff.mp h).2
    | un => exact h
    | dat p m => exact h
/-- an owned list is handed on for good: the last of all; what follows knows it as data -/
theorem ss_frz {t : TS} {i k : Nat} {m : List α → M β β2 (Fl γ ρ)} (hi : env[i]? = some (.own k)) (hk : ∀ b, (f b).length = k) (hno : noOwn k (env.set i .un) = true) (h2 : ∀ b, (f2 b).length ≤ k) (hr : ∀ l, Ss K t (env.set i (Sl.of K l)) f f2 (m l) eN) :
    Ss K t env (extF K f) f2 (frzM m) eN := by
  intro as σ F H b S o b' hm D q
  have hne : ∀ j, j ≠ i → env[j]? ≠ some (.own k) := fun j hj => by
    have := noOwn_get j hno
    rwa [List.getElem?_set_ne (Ne.symm hj)] at this
  have hlen : as.length = k + 1 := by
    rw [S.os.2.1]
    show (f b.1 ++ [ovL K b.2]).length = _
    rw [List.length_append, hk]
    rfl
  obtain ⟨p, h1, h2', h3, h4, vs, h5, h6⟩ := S.at_ (ow := ovL K b.2) hi (by show (f b.1 ++ [ovL K b.2])[k]? = _; rw [List.getElem?_append_right (by rw [hk]; exact Nat.le_refl _), hk, Nat.sub_self]; rfl)
  -- the others
  have ha : as = as.take k ++ [p] := by
    have hk' : k < as.length := by omega
    have e := List.take_append_drop k as
    rw [List.drop_eq_getElem_cons hk', List.drop_of_length_le (by omega)] at e
    have : as[k] = p := by
      rw [List.getElem?_eq_getElem hk'] at h1
      exact Option.some.inj h1
    rw [this] at e
    exact e.symm
  have hnp : p ∉ as.take k := by
    have nd := S.os.1
    rw [ha, List.nodup_append] at nd
    exact fun m => nd.2.2 p m p (by simp) rfl
  have o1 : OsOk (as.take k) (f b.1) F H := ⟨S.os.1.sublist (List.take_sublist _ _), by rw [List.length_take, hk]; omega, fun j a v g1 g2 => by
    have hj : j < k := by
      have := (List.getElem?_eq_some_iff.mp g2).1
      rw [hk] at this
      exact this
    rw [List.getElem?_take, if_pos hj] at g1
    exact S.os.2.2 j a v g1 (by show (f b.1 ++ [ovL K b.2])[j]? = _; rw [List.getElem?_append_left (by rw [hk]; exact hj)]; exact g2)⟩
  have nF : ∀ a u, upd F p (.lst vs) a = some u → H a = some u := fun a u h => by
    by_cases hh : a = p
    · subst hh
      rw [upd_same] at h
      rw [← h]
      exact h5
    · rw [upd_ne hh] at h
      exact S.ex a u h
  have ev : EnvOk (as.take k) (env.set i (Sl.of K b.2)) σ (upd F p (.lst vs)) := ⟨by rw [List.length_set]; exact S.env.1, fun j s e => by
    by_cases hj : i = j
    · subst hj
      by_cases hl : i < env.length
      · rw [List.getElem?_set_self hl] at e
        cases e
        exact ⟨.ref p, h2', p, vs, rfl, upd_same, h6.imp fun _ _ => Rep.mono (.new h3)⟩
      · rw [List.getElem?_eq_none (by rw [List.length_set]; omega)] at e
        cases e
    · rw [List.getElem?_set_ne hj] at e
      have z := (S.env.2 j s e).mono (F' := upd F p (.lst vs)) (.new h3)
      cases s with
      | un => trivial
      | dat r m => exact z
      | own k' =>
        obtain ⟨a, z1, z2⟩ := z
        have hk' : k' ≠ k := fun z => hne j (Ne.symm hj) (by rw [← z]; exact e)
        have hlt : k' < k := by
          have := (List.getElem?_eq_some_iff.mp z1).1
          omega
        exact ⟨a, by rw [List.getElem?_take, if_pos hlt]; exact z1, z2⟩⟩
  refine hr b.2 (as.take k) σ (upd F p (.lst vs)) H b.1 ⟨nF, o1.frz hnp h3, ev⟩ o b' hm D ?_
  have back : ∀ {F' H'}, Nx (as.take k) (upd F p (.lst vs)) H F' H' → Nx as F H F' H' := fun {F' H'} n => by
    have pas : p ∈ as := List.mem_of_getElem? h1
    have sub : ∀ x, x ∉ as → x ∉ as.take k := fun x h m => h (List.mem_of_mem_take m)
    exact ⟨(Ex.new h3).trans n.ff, n.fh, fun a u h e => n.keep a u (sub a h) e, fun a h e => by
      rw [n.old a (sub a h) e, upd_ne fun z => h (by rw [z]; exact pas)], n.there⟩
  have tk : ∀ b : β2, (as.take k).take (f2 b).length = as.take (f2 b).length := fun b => by
    rw [List.take_take, Nat.min_eq_left (h2 b)]
  cases o with
  | nx g => exact fun σ' F' H' n' S' => q σ' F' H' (back n') (by rw [← tk]; exact S')
  | bk g => exact fun σ' F' H' n' S' => q σ' F' H' (back n') (by rw [← tk]; exact S')
  | ct g => exact fun σ' F' H' n' S' => q σ' F' H' (back n') (by rw [← tk]; exact S')
  | rt r => exact fun v F' H' n' o' => q v F' H' (back n') (by rw [← tk]; exact o')
end
end Tw

namespace Tw
open PySem L2

/-! ### operations by values -/
section
variable {K : PySem.W.Frag}
/-! ints -/
abbrev gI (g : Int → Int → Int) : Int → Int → Option Int := fun x y => some (g x y)
abbrev gB (g : Int → Int → Bool) : Int → Int → Option Bool := fun x y => some (g x y)
theorem o2_I {g : Int → Int → Int} : Op2 K (rI0 fun i j => .int (g i j)) (gI g) := fun F H x y z v w ex e r1 r2 Q q => by
  cases e
  exact ⟨x, y, r1, r2, q _ F H (.refl ex) rfl⟩
theorem o2_B {g : Int → Int → Bool} : Op2 K (rI0 fun i j => .bl (g i j)) (gB g) := fun F H x y z v w ex e r1 r2 Q q => by
  cases e
  exact ⟨x, y, r1, r2, q _ F H (.refl ex) rfl⟩
theorem o2_add : Op2 K (rI0 fun i j => .int (i + j)) (gI (· + ·)) := o2_I
theorem o2_sub : Op2 K (rI0 fun i j => .int (i - j)) (gI (· - ·)) := o2_I
theorem o2_lt : Op2 K (rI0 fun i j => .bl (decide (i < j))) (gB fun i j => decide (i < j)) := o2_B
theorem o2_le : Op2 K (rI0 fun i j => .bl (decide (i ≤ j))) (gB fun i j => decide (i ≤ j)) := o2_B
theorem o2_gt : Op2 K (rI0 fun i j => .bl (decide (j < i))) (gB fun i j => decide (j < i)) := o2_B
theorem o2_ge : Op2 K (rI0 fun i j => .bl (decide (j ≤ i))) (gB fun i j => decide (j ≤ i)) := o2_B
def gMul (x y : Int) : Option Int := if (-(2 ^ 64) < x ∧ x < 2 ^ 64) ∨ (-(2 ^ 64) < y ∧ y < 2 ^ 64) then some (x * y) else none
theorem o2_mul : Op2 K (rI CMul fun i j => .int (i * j)) gMul := fun F H x y z v w ex e r1 r2 Q q => by
  unfold gMul at e
  split at e
  · rename_i h
    cases e
    exact ⟨x, y, r1, r2, h, q _ F H (.refl ex) rfl⟩
  · cases e
def gDiv (x y : Int) : Option Int := if 0 < y ∧ y < 1073741824 then some (x / y) else none
theorem o2_fdiv : Op2 K (rI CDiv fun i j => .int (i / j)) gDiv := fun F H x y z v w ex e r1 r2 Q q => by
  unfold gDiv at e
  split at e
  · rename_i h
    cases e
    exact ⟨x, y, r1, r2, h, q _ F H (.refl ex) rfl⟩
  · cases e
def gMod (x y : Int) : Option Int := if 0 < y then some (x % y) else none
theorem o2_mod : Op2 K (rI (fun _ j => 0 < j) fun i j => .int (i % j)) gMod := fun F H x y z v w ex e r1 r2 Q q => by
  unfold gMod at e
  split at e
  · rename_i h
    cases e
    exact ⟨x, y, r1, r2, h, q _ F H (.refl ex) rfl⟩
  · cases e
def gPow (x y : Int) : Option Int := if 0 ≤ y ∧ y ≤ 1000000 ∧ x.natAbs < 2 ^ 64 then some (x ^ y.toNat) else none
theorem o2_pow : Op2 K (rI CPow fun i j => .int (i ^ j.toNat)) gPow := fun F H x y z v w ex e r1 r2 Q q => by
  unfold gPow at e
  split at e
  · rename_i h
    cases e
    exact ⟨x, y, r1, r2, h, q _ F H (.refl ex) rfl⟩
  · cases e
/-! == of scalars -/
class ScV (α : Type) where
  ofV : α → V
instance : ScV Int := ⟨V.int⟩
instance : ScV Bool := ⟨V.bl⟩
instance : ScV Tx := ⟨fun x => V.str (tS x)⟩
instance : ScV Unit := ⟨fun _ => V.non⟩
instance {α : Type} [ScV α] : ScV (Option α) := ⟨fun x => match x with | none => .non | some y => ScV.ofV y⟩
class Sc (K : PySem.W.Frag) (α : Type) [Rep K α] [ScV α] : Prop where
  is : ∀ {F : Hp} {x : α} {v : V}, Rep.rp K F x v → v = ScV.ofV x
instance : Sc K Int := ⟨fun h => h⟩
instance : Sc K Bool := ⟨fun h => h⟩
instance : Sc K Tx := ⟨fun h => h⟩
instance : Sc K Unit := ⟨fun h => h⟩
instance {α : Type} [Rep K α] [ScV α] [Sc K α] : Sc K (Option α) := ⟨fun {F x v} h => by
  cases x with
  | none => exact h
  | some y => exact Sc.is (K := K) (α := α) h⟩
def gEqS {α γ : Type} [ScV α] [ScV γ] (x : α) (y : γ) : Option Bool := if scal (ScV.ofV x) (ScV.ofV y) = true then some (decide (ScV.ofV x = ScV.ofV y)) else none
def gNeS {α γ : Type} [ScV α] [ScV γ] (x : α) (y : γ) : Option Bool := if scal (ScV.ofV x) (ScV.ofV y) = true then some (!decide (ScV.ofV x = ScV.ofV y)) else none
theorem o2_eqS {α γ : Type} [Rep K α] [Rep K γ] [ScV α] [ScV γ] [Sc K α] [Sc K γ] : Op2 K (α := α) (γ := γ) rEq gEqS := fun F H x y z v w ex e r1 r2 Q q => by
  unfold gEqS at e
  rw [Sc.is r1, Sc.is r2]
  split at e
  · rename_i h
    cases e
    exact ⟨h, q _ F H (.refl ex) rfl⟩
  · cases e
theorem o2_neS {α γ : Type} [Rep K α] [Rep K γ] [ScV α] [ScV γ] [Sc K α] [Sc K γ] : Op2 K (α := α) (γ := γ) rNe gNeS := fun F H x y z v w ex e r1 r2 Q q => by
  unfold gNeS at e
  rw [Sc.is r1, Sc.is r2]
  split at e
  · rename_i h
    cases e
    exact ⟨h, q _ F H (.refl ex) rfl⟩
  · cases e
theorem V_str_eq {x y : Tx} : V.str (tS x) = V.str (tS y) ↔ x = y := ⟨fun h => tS_inj (V.str.inj h), fun h => by rw [h]⟩
@[simp] theorem gEqS_int (x y : Int) : gEqS x y = some (decide (x = y)) := by
  show some (decide (V.int x = V.int y)) = _
  exact congrArg some (decide_eq_decide.mpr ⟨fun h => V.int.inj h, fun h => by rw [h]⟩)
@[simp] theorem gEqS_tx (x y : Tx) : gEqS x y = some (decide (x = y)) := by
  show some (decide (V.str (tS x) = V.str (tS y))) = _
  exact congrArg some (decide_eq_decide.mpr V_str_eq)
@[simp] theorem gEqS_bl (x y : Bool) : gEqS x y = some (decide (x = y)) := by
  show some (decide (V.bl x = V.bl y)) = _
  exact congrArg some (decide_eq_decide.mpr ⟨fun h => V.bl.inj h, fun h => by rw [h]⟩)
@[simp] theorem gEqS_otx (x : Option Tx) (y : Tx) : gEqS x y = some (decide (x = some y)) := by
  cases x with
  | none => rfl
  | some z =>
    show some (decide (V.str (tS z) = V.str (tS y))) = _
    exact congrArg some (decide_eq_decide.mpr (V_str_eq.trans ⟨fun h => by rw [h], fun h => Option.some.inj h⟩))
@[simp] theorem gNeS_int (x y : Int) : gNeS x y = some (!decide (x = y)) := by
  show some (!decide (V.int x = V.int y)) = _
  exact congrArg (fun b => some (!b)) (decide_eq_decide.mpr ⟨fun h => V.int.inj h, fun h => by rw [h]⟩)
@[simp] theorem gNeS_tx (x y : Tx) : gNeS x y = some (!decide (x = y)) := by
  show some (!decide (V.str (tS x) = V.str (tS y))) = _
  exact congrArg (fun b => some (!b)) (decide_eq_decide.mpr V_str_eq)
@[simp] theorem gNeS_bl (x y : Bool) : gNeS x y = some (!decide (x = y)) := by
  show some (!decide (V.bl x = V.bl y)) = _
  exact congrArg (fun b => some (!b)) (decide_eq_decide.mpr ⟨fun h => V.bl.inj h, fun h => by rw [h]⟩)
/-! is None, is not None -/
def rIsNon : R2 := fun x y H Q => y = .non ∧ Q (.bl (decide (x = .non))) H
def rNotNon : R2 := fun x y H Q => y = .non ∧ Q (.bl (!decide (x = .non))) H
theorem opIsNon {X : Cx} : OpR X (compareOp .Is) rIsNon := op_isN
theorem opNotNon {X : Cx} : OpR X (compareOp .IsNot) rNotNon := op_notN
class NN (K : PySem.W.Frag) (α : Type) [Rep K α] where
  nn : ∀ {F : Hp} {x : α} {v : V}, Rep.rp K F x v → v ≠ .non
instance : NN K Int := ⟨fun {F x v} h => by have h' : v = .int x := h; rw [h']; exact nofun⟩
instance : NN K Bool := ⟨fun {F x v} h => by have h' : v = .bl x := h; rw [h']; exact nofun⟩
instance : NN K Tx := ⟨fun {F x v} h => by have h' : v = .str (tS x) := h; rw [h']; exact nofun⟩
instance {α : Type} [Rep K α] : NN K (List α) := ⟨fun {F x v} ⟨p, vs, h, _⟩ => by rw [h]; exact nofun⟩
instance {α γ : Type} [Rep K α] [Rep K γ] : NN K (α × γ) := ⟨fun {F x v} ⟨p, _, _, h, _⟩ => by rw [h]; exact nofun⟩
instance {α γ δ : Type} [Rep K α] [Rep K γ] [Rep K δ] : NN K (T3 α γ δ) := ⟨fun {F x v} ⟨p, _, _, _, h, _⟩ => by rw [h]; exact nofun⟩
instance {α γ : Type} [Rep K α] [Rep K γ] [NN K α] [NN K γ] : NN K (α ⊕ γ) := ⟨fun {F x v} h => by
  cases x with
  | inl y => exact NN.nn (K := K) (α := α) h
  | inr y => exact NN.nn (K := K) (α := γ) h⟩
theorem o2_isN {α : Type} [Rep K α] [NN K α] : Op2 K (α := Option α) (γ := Unit) rIsNon (fun x _ => some x.isNone) := fun F H x y z v w ex e r1 r2 Q q => by
  cases e
  refine ⟨r2, q _ F H (.refl ex) ?_⟩
  cases x with
  | none =>
    have r1' : v = .non := r1
    subst r1'
    rfl
  | some a =>
    show V.bl _ = V.bl false
    rw [decide_eq_false (NN.nn (K := K) (α := α) r1)]
theorem o2_notN {α : Type} [Rep K α] [NN K α] : Op2 K (α := Option α) (γ := Unit) rNotNon (fun x _ => some x.isSome) := fun F H x y z v w ex e r1 r2 Q q => by
  cases e
  refine ⟨r2, q _ F H (.refl ex) ?_⟩
  cases x with
  | none =>
    have r1' : v = .non := r1
    subst r1'
    rfl
  | some a =>
    show V.bl _ = V.bl true
    rw [decide_eq_false (NN.nn (K := K) (α := α) r1)]
    rfl
/-! texts -/
def rAddS : R2 := fun x y H Q => ∃ i j, x = .str i ∧ y = .str j ∧ i.length + j.length ≤ sizeLine ∧ Q (.str (i ++ j)) H
theorem opAddS {X : Cx} : OpR X (binaryOp .Add) rAddS := op_add_str
def gCat {α : Type} (x y : List α) : Option (List α) := if x.length + y.length ≤ line then some (x ++ y) else none
theorem gCat_ok {α : Type} {x y : List α} (h : x.length + y.length ≤ line) : gCat x y = some (x ++ y) := if_pos h
theorem o2_addS : Op2 K (α := Tx) (γ := Tx) (δ := Tx) rAddS gCat := fun F H x y z v w ex e r1 r2 Q q => by
  unfold gCat at e
  split at e
  · rename_i h
    cases e
    refine ⟨tS x, tS y, r1, r2, by rw [tS_len, tS_len, sizeLine_eq]; exact h, q _ F H (.refl ex) ?_⟩
    rw [tS_app]
    rfl
  · cases e
def rMulS : R2 := fun x y H Q => ∃ z i, x = .str z ∧ y = .int i ∧ PySem.MulOk z i ∧ Q (.str (Txt.mul z i)) H
theorem opMulS {X : Cx} : OpR X (binaryOp .Mult) rMulS := by
  intro pins s σ H x y v u Q I rx ry h
  obtain ⟨z, i, rfl, rfl, hm, q⟩ := h
  obtain ⟨t, rfl⟩ := rx
  obtain ⟨t', rfl⟩ := ry
  exact PySem.SB.mul hm fun t' k => ⟨.str _, H, I.tok _, ⟨_, rfl⟩, q⟩
def gRep {α : Type} (x : List α) (n : Int) : Option (List α) := if -(2 ^ 63) ≤ n ∧ n < 2 ^ 63 ∧ x.length * n.toNat ≤ line then some (List.replicate n.toNat x).flatten else none
theorem tooLong_of {n : Nat} (h : n ≤ line) : PySem.Builtin.Str.tooLong n = false := by
  unfold PySem.Builtin.Str.tooLong
  exact decide_eq_false (by rw [sizeLine_eq]; exact Nat.not_lt.mpr h)
theorem foldl_app : ∀ (l : List (Array Nat)) (a : Array Nat), l.foldl (· ++ ·) a = (a.toList ++ (l.map (·.toList)).flatten).toArray
  | [], a => by simp
  | x :: l, a => by
    rw [List.foldl_cons, foldl_app l (a ++ x)]
    simp
theorem o2_mulS : Op2 K (α := Tx) (γ := Int) (δ := Tx) rMulS gRep := fun F H x y z v w ex e r1 r2 Q q => by
  unfold gRep at e
  split at e
  · rename_i h
    obtain ⟨h1, h2, h3⟩ := h
    cases e
    refine ⟨tS x, y, r1, r2, ⟨?_, ?_, ?_⟩, q _ F H (.refl ex) ?_⟩
    · have e1 : decide (y < -(2 ^ 63 : Int)) = false := decide_eq_false (by omega)
      have e2 : decide (y ≥ 2 ^ 63) = false := decide_eq_false (by omega)
      rw [e1, e2]
      rfl
    · intro h4 h5 h6
      have h7 : x.length ≤ line := by
        refine Nat.le_trans ?_ h3
        exact Nat.le_mul_of_pos_right _ (by omega)
      rw [tS_len] at h6 h5
      have h8 : (2 : Int) ≤ y := by
        have : (y == 1) = false := by
          cases hh : (y == 1) with
          | false => rfl
          | true => rw [hh] at h5; cases h5
        have : y ≠ 1 := beq_eq_false_iff_ne.mp this
        omega
      have h9 : y.toNat ≤ line ∨ x.length = 0 := by
        by_cases hx : x.length = 0
        · exact .inr hx
        · exact .inl (Nat.le_trans (Nat.le_mul_of_pos_left _ (by omega)) h3)
      have hx : x.length ≠ 0 := beq_eq_false_iff_ne.mp (Bool.or_eq_false_iff.mp h5).2
      have h10 : y.toNat ≤ 16777216 := h9.resolve_right hx
      have h11 : (x.length : Int) * y ≤ 16777216 := by
        have : (y.toNat : Int) = y := Int.toNat_of_nonneg (by omega)
        rw [← this, ← Int.natCast_mul]
        exact Int.ofNat_le.mpr h3
      have : ((x.length : Int)) ≤ (2 ^ 63 - 1) / y := by
        rw [Int.le_ediv_iff_mul_le (by omega)]
        omega
      omega
    · intro _ _
      rw [tS_len]
      exact tooLong_of h3
    · show V.str (Txt.mul (tS x) y) = V.str (tS _)
      congr 1
      unfold Txt.mul
      by_cases h4 : y < 1
      · rw [if_pos h4]
        have : y.toNat = 0 := by omega
        rw [this]
        rfl
      · rw [if_neg h4]
        by_cases h5 : (y == 1 || (tS x).length == 0) = true
        · rw [if_pos h5]
          rcases Bool.or_eq_true_iff.mp h5 with h6 | h6
          · have : y = 1 := eq_of_beq h6
            rw [this]
            simp
          · rw [tS_len] at h6
            have : x.length = 0 := eq_of_beq h6
            have hx : x = [] := List.length_eq_zero_iff.mp this
            subst hx
            have : (List.replicate y.toNat ([] : List Nat)).flatten = [] := List.flatten_eq_nil_iff.mpr fun l hl => (List.mem_replicate.mp hl).2
            rw [this]
        · rw [if_neg h5]
          unfold tS
          congr 1
          rw [foldl_app]
          simp
  · cases e
/-! places -/
def rIxStr : R2 := rIxS
def gIxS (x : Tx) (i : Int) : Option Tx := if x.length ≤ line then (atI x i).map fun c => [c] else none
theorem o2_ixS : Op2 K (α := Tx) (γ := Int) (δ := Tx) rIxS gIxS := fun F H x y z v w ex e r1 r2 Q q => by
  unfold gIxS at e
  split at e
  · rename_i h
    obtain ⟨c, hc, rfl⟩ := Option.map_eq_some_iff.mp e
    exact ⟨tS x, y, c, r1, r2, by rw [tS_len, sizeLine_eq]; exact h, by rw [tS_cps]; exact hc, q _ F H (.refl ex) rfl⟩
  · cases e
theorem RpAll.atI {α : Type} {r : α → V → Prop} {xs : List α} {vs : List V} {i : Int} {x : α} (h : RpAll r xs vs) (e : L2.atI xs i = some x) : ∃ v, L2.atI vs i = some v ∧ r x v := by
  unfold L2.atI at e ⊢
  rw [← h.length]
  obtain ⟨j, h1, h2⟩ := Option.bind_eq_some_iff.mp e
  rw [h1]
  exact h.get' h2
theorem o2_ixL {α : Type} [Rep K α] : Op2 K (α := List α) (γ := Int) (rIxL K) (fun x i => atI x i) := fun F H x y z v w ex e r1 r2 Q q => by
  obtain ⟨p, vs, rfl, h2, h3⟩ := r1
  obtain ⟨u, hu, ru⟩ := h3.atI e
  exact ⟨p, vs, y, u, rfl, r2, .of (ex _ _ h2), hu, q _ F H (.refl ex) ru⟩
def gK {α : Type} (g : α) (k j : Int) : Option α := if j = k then some g else none
theorem o2_ix0 {α γ : Type} [Rep K α] [Rep K γ] : Op2 K (α := α × γ) (γ := Int) (rIxT K) (fun x i => gK x.1 0 i) := fun F H x y z v w ex e r1 r2 Q q => by
  obtain ⟨p, a, b, rfl, h2, h3, h4⟩ := r1
  simp only [gK] at e
  split at e
  · subst_vars
    cases e
    exact ⟨p, _, 0, a, rfl, rfl, ex.sqT h2, rfl, q _ F H (.refl ex) h3⟩
  · cases e
theorem o2_ix1 {α γ : Type} [Rep K α] [Rep K γ] : Op2 K (α := α × γ) (γ := Int) (rIxT K) (fun x i => gK x.2 1 i) := fun F H x y z v w ex e r1 r2 Q q => by
  obtain ⟨p, a, b, rfl, h2, h3, h4⟩ := r1
  simp only [gK] at e
  split at e
  · subst_vars
    cases e
    exact ⟨p, _, 1, b, rfl, rfl, ex.sqT h2, rfl, q _ F H (.refl ex) h4⟩
  · cases e
theorem o2_ix30 {α γ δ : Type} [Rep K α] [Rep K γ] [Rep K δ] : Op2 K (α := T3 α γ δ) (γ := Int) (rIxT K) (fun x i => gK x.a 0 i) := fun F H x y z v w ex e r1 r2 Q q => by
  obtain ⟨p, a, b, c, rfl, h2, h3, h4, h5⟩ := r1
  simp only [gK] at e
  split at e
  · subst_vars
    cases e
    exact ⟨p, _, 0, a, rfl, rfl, ex.sqT h2, rfl, q _ F H (.refl ex) h3⟩
  · cases e
theorem o2_ix31 {α γ δ : Type} [Rep K α] [Rep K γ] [Rep K δ] : Op2 K (α := T3 α γ δ) (γ := Int) (rIxT K) (fun x i => gK x.b 1 i) := fun F H x y z v w ex e r1 r2 Q q => by
  obtain ⟨p, a, b, c, rfl, h2, h3, h4, h5⟩ := r1
  simp only [gK] at e
  split at e
  · subst_vars
    cases e
    exact ⟨p, _, 1, b, rfl, rfl, ex.sqT h2, rfl, q _ F H (.refl ex) h4⟩
  · cases e
theorem o2_ix32 {α γ δ : Type} [Rep K α] [Rep K γ] [Rep K δ] : Op2 K (α := T3 α γ δ) (γ := Int) (rIxT K) (fun x i => gK x.c 2 i) := fun F H x y z v w ex e r1 r2 Q q => by
  obtain ⟨p, a, b, c, rfl, h2, h3, h4, h5⟩ := r1
  simp only [gK] at e
  split at e
  · subst_vars
    cases e
    exact ⟨p, _, 2, c, rfl, rfl, ex.sqT h2, rfl, q _ F H (.refl ex) h5⟩
  · cases e
/-! lists -/
theorem o2_cat {α : Type} [Rep K α] : Op2 K (α := List α) (γ := List α) (δ := List α) rCat gCat := fun F H x y z v w ex e r1 r2 Q q => by
  unfold gCat at e
  split at e
  · rename_i h
    cases e
    obtain ⟨p, vs, rfl, h2, h3⟩ := r1
    obtain ⟨p', ws, rfl, h2', h3'⟩ := r2
    refine ⟨p, p', vs, ws, rfl, rfl, ex _ _ h2, ex _ _ h2', by rw [← h3.length, ← h3'.length, sizeLine_eq]; exact h, fun c hc => ?_⟩
    have n := Nx.new (o := .lst (vs ++ ws)) ex hc
    exact q _ _ _ n ⟨c, _, rfl, upd_same, (h3.imp fun _ _ => Rep.mono n.ff).app (h3'.imp fun _ _ => Rep.mono n.ff)⟩
  · cases e
theorem o2_rep {α : Type} [Rep K α] : Op2 K (α := List α) (γ := Int) (δ := List α) rRep gRep := fun F H x y z v w ex e r1 r2 Q q => by
  unfold gRep at e
  split at e
  · rename_i h
    obtain ⟨g1, g2, g3⟩ := h
    cases e
    obtain ⟨p, vs, rfl, h2, h3⟩ := r1
    refine ⟨p, y, vs, rfl, r2, ex _ _ h2, g1, g2, by rw [← h3.length, sizeLine_eq]; exact g3, fun c hc => ?_⟩
    have n := Nx.new (o := .lst (List.replicate y.toNat vs).flatten) ex hc
    exact q _ _ _ n ⟨c, _, rfl, upd_same, (h3.imp fun _ _ => Rep.mono n.ff).rep _⟩
  · cases e
/-! slices -/
variable {β : Type} {env : List Sl} {f : β → List OV}
def Eo (to : TO) (env : List Sl) (f : β → List OV) (m : M β β (Option Int)) : Prop :=
  ∀ (as : List Addr) (σ : St) (F H : Hp) (b : β), Stt as env (f b) σ F H → ∀ (x : Option Int) (b' : β), m b = some (x, b') → ∀ Q : Option Int → Hp → Prop, (∀ F' H', Nx as F H F' H' → OsOk as (f b') F' H' → Q x H') → to σ H Q
theorem eo_none : Eo tNoPart env f (pu none) := by
  intro as σ F H b S x b' hm Q q
  obtain ⟨rfl, rfl⟩ := pu_some hm
  exact q F H (.refl S.ex) S.os
theorem eo_some {te : TE} {m : M β β Int} (h : Es K te env f m) : Eo (tPart te) env f (mMap some m) := by
  intro as σ F H b S x b' hm Q q
  obtain ⟨x', b1, e1, hm⟩ := bd_some hm
  obtain ⟨rfl, rfl⟩ := pu_some hm
  exact h as σ F H b S x' b1 e1 _ fun v F1 H1 n1 o1 r1 => ⟨x', r1, q F1 H1 n1 o1⟩
def cut {α : Type} (x : List α) (lo hi : Option Int) : List α := (x.drop (HT.sIx x.length 0 lo)).take (HT.sIx x.length x.length hi - HT.sIx x.length 0 lo)
def Sl3 (K : PySem.W.Frag) {α : Type} [Rep K α] (r : V → Option Int → Option Int → Hp → VK → Prop) (g : α → Option Int → Option Int → Option α) : Prop :=
  ∀ (F H : Hp) (x : α) (lo hi : Option Int) (z : α) (v : V), Ex F H → g x lo hi = some z → Rep.rp K F x v → ∀ Q : VK, (∀ u F' H', Nx [] F H F' H' → Rep.rp K F' z u → Q u H') → r v lo hi H Q
def gCut {α : Type} (x : List α) (lo hi : Option Int) : Option (List α) := if x.length ≤ line then some (cut x lo hi) else none
theorem RpAll.cut {α : Type} {r : α → V → Prop} {xs : List α} {vs : List V} (h : RpAll r xs vs) (lo hi : Option Int) : RpAll r (Tw.cut xs lo hi) (cutV vs lo hi) := by
  unfold Tw.cut cutV
  rw [← h.length]
  exact (h.drop _).take _
theorem sl3_L {α : Type} [Rep K α] : Sl3 K (α := List α) (rSlL K) (fun x lo hi => some (cut x lo hi)) := fun F H x lo hi z v ex e r1 Q q => by
  cases e
  obtain ⟨p, vs, rfl, h2, h3⟩ := r1
  refine ⟨p, vs, rfl, .of (ex _ _ h2), fun c hc => ?_⟩
  have n := Nx.new (o := .lst (cutV vs lo hi)) ex hc
  exact q _ _ _ n ⟨c, _, rfl, upd_same, (h3.cut lo hi).imp fun _ _ => Rep.mono n.ff⟩
theorem sl3_S : Sl3 K (α := Tx) rSlS gCut := fun F H x lo hi z v ex e r1 Q q => by
  unfold gCut at e
  split at e
  · rename_i h
    cases e
    refine ⟨tS x, r1, by rw [tS_len, sizeLine_eq]; exact h, q _ F H (.refl ex) ?_⟩
    show V.str (cutS (tS x) lo hi) = V.str (tS (cut x lo hi))
    unfold cutS cut tS
    simp [Str.length]
  · cases e
def mSl {α : Type} (g : α → Option Int → Option Int → Option α) (m : M β β α) (ml mh : M β β (Option Int)) : M β β α := bd m fun x => bd ml fun lo => bd mh fun hi => ov (g x lo hi)
theorem es_slice {α : Type} [Rep K α] {r : V → Option Int → Option Int → Hp → VK → Prop} {g : α → Option Int → Option Int → Option α} (hg : Sl3 K r g) {te : TE} {tl th : TO} {m : M β β α} {ml mh : M β β (Option Int)} (h : Es K te env f m) (hl : Eo tl env f ml) (hh : Eo th env f mh) :
    Es K (tSl r te tl th) env f (mSl g m ml mh) := by
  intro as σ F H b S z b' hm Q q
  obtain ⟨x, b1, e1, hm⟩ := bd_some hm
  obtain ⟨lo, b2, e2, hm⟩ := bd_some hm
  obtain ⟨hi, b3, e3, hm⟩ := bd_some hm
  obtain ⟨e4, rfl⟩ := ov_some hm
  refine h as σ F H b S x b1 e1 _ fun v F1 H1 n1 o1 r1 => ?_
  have S1 := S.step n1 o1
  refine hl as σ F1 H1 b1 S1 lo b2 e2 _ fun F2 H2 n2 o2 => ?_
  have S2 := S1.step n2 o2
  refine hh as σ F2 H2 b2 S2 hi b' e3 _ fun F3 H3 n3 o3 => ?_
  exact hg F3 H3 x lo hi z v n3.fh e4 (Rep.mono (n2.ff.trans n3.ff) r1) Q fun u F4 H4 n4 r4 => q u F4 H4 (((n1.trans n2).trans n3).trans n4.nil) (o3.step n4) r4
/-! calls of what is built in -/
def rMin2 : List V → Hp → VK → Prop := fun xs H Q => ∃ i j, xs = [.int i, .int j] ∧ Q (.int (if j < i then j else i)) H
theorem callMin2 {X : Cx} (hc : X.calm = true) : CallR X (.builtin "min") rMin2 := call_min2 hc
theorem cl_min2 : Cl K (α := Int × Int × Unit) (γ := Int) rMin2 (fun x => some (if x.2.1 < x.1 then x.2.1 else x.1)) := fun F H x z vs ex e ra Q q => by
  cases e
  obtain ⟨v, _, rfl, r1, w, _, rfl, r2, rfl⟩ := ra
  have r1' : v = .int x.1 := r1
  have r2' : w = .int x.2.1 := r2
  subst r1' r2'
  exact ⟨x.1, x.2.1, rfl, q _ F H (.refl ex) rfl⟩
def rAbs : List V → Hp → VK → Prop := fun xs H Q => ∃ i, xs = [.int i] ∧ Q (.int (if i < 0 then -i else i)) H
theorem callAbs {X : Cx} : CallR X (.builtin "abs") rAbs := call_abs
theorem cl_abs : Cl K (α := Int × Unit) (γ := Int) rAbs (fun x => some (if x.1 < 0 then -x.1 else x.1)) := fun F H x z vs ex e ra Q q => by
  cases e
  obtain ⟨v, _, rfl, r1, rfl⟩ := ra
  have r1' : v = .int x.1 := r1
  subst r1'
  exact ⟨x.1, rfl, q _ F H (.refl ex) rfl⟩
def rInt1 : List V → Hp → VK → Prop := fun xs H Q => (∃ i, xs = [.int i] ∧ Q (.int i) H) ∨ ∃ k, xs = [.bl k] ∧ Q (.int (if k then 1 else 0)) H
theorem callInt1 {X : Cx} : CallR X (.type "int") rInt1 := call_int1
theorem cl_intI : Cl K (α := Int × Unit) (γ := Int) rInt1 (fun x => some x.1) := fun F H x z vs ex e ra Q q => by
  cases e
  obtain ⟨v, _, rfl, r1, rfl⟩ := ra
  have r1' : v = .int x.1 := r1
  subst r1'
  exact .inl ⟨x.1, rfl, q _ F H (.refl ex) rfl⟩
theorem cl_intB : Cl K (α := Bool × Unit) (γ := Int) rInt1 (fun x => some (if x.1 = true then 1 else 0)) := fun F H x z vs ex e ra Q q => by
  cases e
  obtain ⟨v, _, rfl, r1, rfl⟩ := ra
  have r1' : v = .bl x.1 := r1
  subst r1'
  exact .inr ⟨x.1, rfl, q _ F H (.refl ex) rfl⟩
def rStrI : List V → Hp → VK → Prop := fun xs H Q => ∃ i, xs = [.int i] ∧ i.natAbs.log2 < 1920 ∧ Q (.str (toString i)) H
def rLenQ (K : PySem.W.Frag) : List V → Hp → VK → Prop := fun xs H Q => ∃ p ys, xs = [.ref p] ∧ (SqL K H p ys ∨ SqT K H p ys) ∧ Q (.int ys.length) H
def rLenT : List V → Hp → VK → Prop := fun xs H Q => ∃ z, xs = [.str z] ∧ z.length ≤ sizeLine ∧ Q (.int z.length) H
theorem callLenQ {X : Cx} : CallR X (.builtin "len") (rLenQ X.K) := call_len_seq
theorem callLenT {X : Cx} : CallR X (.builtin "len") rLenT := call_len_str
theorem cl_lenL {α : Type} [Rep K α] : Cl K (α := List α × Unit) (γ := Int) (rLenQ K) (fun x => some (x.1.length : Int)) := fun F H x z vs ex e ra Q q => by
  cases e
  obtain ⟨v, _, rfl, ⟨p, ws, rfl, h2, h3⟩, rfl⟩ := ra
  refine ⟨p, ws, rfl, .inl (.of (ex _ _ h2)), q _ F H (.refl ex) ?_⟩
  show V.int _ = V.int _
  rw [h3.length]
def gLenT (x : Tx × Unit) : Option Int := if x.1.length ≤ line then some (x.1.length : Int) else none
theorem cl_lenT : Cl K (α := Tx × Unit) (γ := Int) rLenT gLenT := fun F H x z vs ex e ra Q q => by
  unfold gLenT at e
  split at e
  · rename_i h
    cases e
    obtain ⟨v, _, rfl, r1, rfl⟩ := ra
    have r1' : v = .str (tS x.1) := r1
    subst r1'
    refine ⟨tS x.1, rfl, by rw [tS_len, sizeLine_eq]; exact h, q _ F H (.refl ex) ?_⟩
    show V.int _ = V.int _
    rw [tS_len]
  · cases e
/-! join -/
def rJoin (K : PySem.W.Frag) : V → List V → Hp → VK → Prop := fun x xs H Q => ∃ a p, ∃ ys : List Str, x = .str a ∧ xs = [.ref p] ∧ (SqL K H p (ys.map V.str) ∨ SqT K H p (ys.map V.str)) ∧
    (ys.map (·.length)).sum + ys.length * a.length ≤ 16777216 ∧ Q (.str (Txt.join a ys)) H
theorem mtJoin {X : Cx} : MtR X "str.join" (rJoin X.K) := mt_join
/-- e.join(list), e written and empty -/
def gJoin (x : Tx) (y : List Tx × Unit) : Option Tx := if x = [] ∧ (y.1.map (·.length)).sum ≤ line then some y.1.flatten else none
theorem join_foldl : ∀ (l : List Str) (a : Array Nat), (l.foldl (fun acc (p : Str) => acc ++ (#[] : Array Nat) ++ p.cps) a) = (a.toList ++ (l.map fun s => s.cps.toList).flatten).toArray
  | [], a => by simp
  | s :: l, a => by
    rw [List.foldl_cons, join_foldl l]
    simp
theorem join_tx (ys : List Tx) : Txt.join (tS []) (ys.map tS) = tS ys.flatten := by
  unfold Txt.join Builtin.Str.glued
  show Str.mk _ = Str.mk _
  congr 1
  show List.foldl (fun acc (p : Str) => acc ++ (#[] : Array Nat) ++ p.cps) _ _ = _
  rw [join_foldl]
  cases ys with
  | nil => rfl
  | cons y ys =>
    simp [tS]
    congr 1
    congr 1
    have : ((fun s : Str => s.cps.toList) ∘ tS) = id := by
      funext x
      simp [tS]
    rw [this, List.map_id]
theorem rp_tx_all {F : Hp} : ∀ {xs : List Tx} {vs : List V}, RpAll (Rep.rp K F) xs vs → vs = (xs.map tS).map V.str
  | [], [], _ => rfl
  | x :: xs, v :: vs, h => by
    rw [rp_tx_all h.2, show v = V.str (tS x) from h.1]
    rfl
  | [], _ :: _, h => h.elim
  | _ :: _, [], h => h.elim
/-- a method of a text, by values -/
def Mt2 (K : PySem.W.Frag) {α γ δ : Type} [Rep K α] [RepA K γ] [Rep K δ] (T : String) (r : V → List V → Hp → VK → Prop) (g : α → γ → Option δ) : Prop :=
  (∀ (F H : Hp) (x : α) (v : V), Ex F H → Rep.rp K F x v → tyV K T v H) ∧ ∀ (F H : Hp) (x : α) (y : γ) (z : δ) (v : V) (vs : List V), Ex F H → g x y = some z → Rep.rp K F x v → RepA.ra K F y vs → ∀ Q : VK, (∀ u F' H', Nx [] F H F' H' → Rep.rp K F' z u → Q u H') → r v vs H Q
theorem es_bm {α γ δ : Type} [Rep K α] [RepA K γ] [Rep K δ] {T : String} {r : V → List V → Hp → VK → Prop} {g : α → γ → Option δ} (hg : Mt2 K T r g) {to : TE} {ta : TA} {m : M β β α} {ma : M β β γ} (h : Es K to env f m) (ha : Ea K ta env f [] ma) :
    Es K (tBM K T r to ta) env f (mOp g m ma) := by
  intro as σ F H b S z b' hm Q q
  obtain ⟨x, b1, e1, hm⟩ := bd_some hm
  obtain ⟨y, b2, e2, hm⟩ := bd_some hm
  obtain ⟨e3, rfl⟩ := ov_some hm
  refine h as σ F H b S x b1 e1 _ fun v F1 H1 n1 o1 r1 => ⟨hg.1 F1 H1 x v n1.fh r1, ?_⟩
  refine ha as σ F1 H1 b1 (S.step n1 o1) y b' e2 _ fun cs vs F2 H2 n2 o2 hl _ r2 => ?_
  have hcs : cs = [] := List.length_eq_zero_iff.mp hl
  subst hcs
  exact hg.2 F2 H2 x y z v vs n2.fh e3 (Rep.mono n2.ff r1) r2 Q fun u F3 H3 n3 r3 => q u F3 H3 ((n1.trans n2).trans n3.nil) (o2.step n3) r3
theorem mt2_join : Mt2 K (α := Tx) (γ := List Tx × Unit) (δ := Tx) "str" (rJoin K) gJoin := by
  refine ⟨fun F H x v ex r => ?_, fun F H x y z v vs ex e r1 r2 Q q => ?_⟩
  · have r' : v = .str (tS x) := r
    subst r'
    rfl
  · unfold gJoin at e
    split at e
    · rename_i h
      obtain ⟨hx, hz⟩ := h
      subst hx
      cases e
      obtain ⟨u, _, rfl, ⟨p, ws, rfl, h2, h3⟩, rfl⟩ := r2
      have r1' : v = .str (tS []) := r1
      subst r1'
      rw [rp_tx_all h3] at h2
      refine ⟨tS [], p, y.1.map tS, rfl, rfl, .inl (.of (ex _ _ h2)), ?_, q _ F H (.refl ex) ?_⟩
      · have e1 : (y.1.map tS).map (·.length) = y.1.map (·.length) := by
          rw [List.map_map]
          exact List.map_congr_left fun x _ => tS_len x
        rw [e1]
        simpa using hz
      · rw [join_tx]
        rfl
    · cases e
end
end Tw

namespace Tw
open PySem L2

/-! ### defs of the text -/
structure Raw (K : PySem.W.Frag) (mg : Str → Option Value) (x : Str) (ps : List Str) (st : Stmt) : Prop where
  ex : ∃ f fd, Fun K x x st f fd ∧ mg x = some (.ref f) ∧ PySem.W.keepIn K (.ref f) = true ∧ Binds K fd ps []
structure Df (P : Program) (w : World) (K : PySem.W.Frag) (mg : Str → Option Value) (base : Heap) (x : Str) (k : Nat) (ps : List Str) (sp : Sp) : Prop where
  ex : ∃ f fd, FnOk P w K mg base CX0 k f fd ps sp ∧ mg x = some (.ref f) ∧ PySem.W.keepIn K (.ref f) = true ∧ Binds K fd ps []
theorem Df.mono {P : Program} {w : World} {K : PySem.W.Frag} {mg : Str → Option Value} {base : Heap} {x : Str} {j k : Nat} {ps : List Str} {sp : Sp} (d : Df P w K mg base x j ps sp) (h : j ≤ k) : Df P w K mg base x k ps sp := by
  obtain ⟨f, fd, a, b, c, e⟩ := d.ex
  exact ⟨f, fd, a.mono h, b, c, e⟩
theorem Room.units1 {k : Nat} {A : Around} (r : Room (k + 1) A) : A.units + 65 < cLine := by
  have := r.un
  omega

/-! ### forms that the printer writes -/
section
variable {X : Cx} {a b : Expr} {ta tb : TE} {pos : Pos}
theorem pe_cmpN {op : CmpOp} {r : R2} (ho : OpR X (compareOp op) r) (ha : PE X a ta) (hb : PE X b tb) (h : op ≠ .In := by decide) (h2 : op ≠ .NotIn := by decide) : PE X (.Compare a [op] [b] pos) (tOp r ta tb) := pe_cmpR ho ha hb (nomark b h h2)
theorem pt_cmpN {op : CmpOp} {r : R2} (ho : OpR X (compareOp op) r) (ha : PE X a ta) (hb : PE X b tb) (h : op ≠ .In := by decide) (h2 : op ≠ .NotIn := by decide) : PT X (.Compare a [op] [b] pos) (tTest (tOp r ta tb)) := pt_cmpR ho ha hb (nomark b h h2)
theorem pe_cmpIn {op : CmpOp} {r : R2} (ho : OpR X (compareOp op) r) (ha : PE X a ta) (hb : PE X b tb) (hm : behindInMarks op b = false := by with_unfolding_all rfl) : PE X (.Compare a [op] [b] pos) (tOp r ta tb) := pe_cmpR ho ha hb hm
theorem pt_cmpIn {op : CmpOp} {r : R2} (ho : OpR X (compareOp op) r) (ha : PE X a ta) (hb : PE X b tb) (hm : behindInMarks op b = false := by with_unfolding_all rfl) : PT X (.Compare a [op] [b] pos) (tTest (tOp r ta tb)) := pt_cmpR ho ha hb hm
theorem pe_notV (ha : PE X a ta) : PE X (.UnaryOp .Not a pos) (tNotV ta) := pe_not ha
end
section
variable {K : PySem.W.Frag} {β : Type} {env : List Sl} {f : β → List OV}
theorem es_negc {i : Int} : Es K (tUn (rU fun i => .int (-i)) (tC (.int i))) env f (pu (-i)) := by
  intro as σ F H b S y b' hm Q q
  obtain ⟨rfl, rfl⟩ := pu_some hm
  exact ⟨i, rfl, q _ F H (.refl S.ex) S.os rfl⟩
theorem et_yes : Et tYes env f (pu true) := by
  intro as σ F H b S y b' hm Q q
  obtain ⟨rfl, rfl⟩ := pu_some hm
  exact q F H (.refl S.ex) S.os
def gMin2 (x : Int × Int × Unit) : Option Int := some (if x.2.1 < x.1 then x.2.1 else x.1)
def gAbs (x : Int × Unit) : Option Int := some (if x.1 < 0 then -x.1 else x.1)
def gIntB (x : Bool × Unit) : Option Int := some (if x.1 = true then 1 else 0)
def enumL {α : Type} (x : List α × Unit) : List (Int × α) := ((List.range x.1.length).map fun (k : Nat) => ((k : Int))).zip x.1
def gIsB (x y : Bool) : Option Bool := some (decide (x = y))
def gNotB (x y : Bool) : Option Bool := some (!decide (x = y))
theorem o2_isB : Op2 K (α := Bool) (γ := Bool) rIsB gIsB := fun F H x y z v w ex e r1 r2 Q q => by
  cases e
  exact ⟨x, y, r1, r2, q _ F H (.refl ex) rfl⟩
theorem o2_notB : Op2 K (α := Bool) (γ := Bool) rNotB gNotB := fun F H x y z v w ex e r1 r2 Q q => by
  cases e
  exact ⟨x, y, r1, r2, q _ F H (.refl ex) rfl⟩
theorem iop_addI {X : Cx} : PIp X .Add (rI0 fun i j => .int (i + j)) := fun pins s σ H x y v u Q I rx ry h => iop_add pins s σ H x y v u Q I rx ry h

/-! ### the script -/
structure Scr where
  ns : List Int
instance : Rep K Scr := ⟨fun F x v => ∃ a, v = .ref a ∧ SqL K F a (x.ns.map V.int), fun e ⟨a, h1, h2⟩ => ⟨a, h1, e.sqL h2⟩⟩
theorem atI_map {α γ : Type} {g : α → γ} {xs : List α} {i : Int} {x : α} (h : atI xs i = some x) : atI (xs.map g) i = some (g x) := by
  unfold atI at h ⊢
  rw [List.length_map]
  obtain ⟨j, h1, h2⟩ := Option.bind_eq_some_iff.mp h
  rw [h1]
  show (xs.map g)[j]? = _
  rw [List.getElem?_map, h2]
  rfl
theorem o2_ixScr : Op2 K (α := Scr) (γ := Int) (δ := Int) (rIxL K) (fun x i => atI x.ns i) := fun F H x y z v w ex e r1 r2 Q q => by
  obtain ⟨a, rfl, h⟩ := r1
  exact ⟨a, _, y, .int z, rfl, r2, ex.sqL h, atI_map e, q _ F H (.refl ex) rfl⟩
theorem cl_lenScr : Cl K (α := Scr × Unit) (γ := Int) (rLenQ K) (fun x => some (x.1.ns.length : Int)) := fun F H x z vs ex e ra Q q => by
  cases e
  obtain ⟨v, _, rfl, ⟨a, rfl, h⟩, rfl⟩ := ra
  refine ⟨a, _, rfl, .inl (ex.sqL h), q _ F H (.refl ex) ?_⟩
  show V.int _ = V.int _
  rw [List.length_map]

/-! ### equality of data -/
class EqD (α : Type) where
  pd : α → PyData
  ok : α → Bool
  dep : Nat
  depOk : ∀ x, (pd x).depth ≤ dep
  okOk : ∀ x, ok x = true → (pd x).canLay0 = true
class EqR (K : PySem.W.Frag) (α : Type) [Rep K α] [EqD α] : Prop where
  dp : ∀ {F : Hp} {x : α} {v : V}, Rep.rp K F x v → Dp K F v (EqD.pd x)
instance : EqD Int := ⟨.int, fun _ => true, 0, fun _ => by simp [PyData.depth], fun _ _ => by simp [PyData.canLay0]⟩
instance : EqD Bool := ⟨.bool, fun _ => true, 0, fun _ => by simp [PyData.depth], fun _ _ => by simp [PyData.canLay0]⟩
instance : EqD Unit := ⟨fun _ => .none, fun _ => true, 0, fun _ => by simp [PyData.depth], fun _ _ => by simp [PyData.canLay0]⟩
def okT (x : Tx) : Bool := x.all (· < 0x110000)
instance : EqD Tx := ⟨fun x => .str (tS x), okT, 0, fun _ => by simp [PyData.depth], fun x h => by
  simp only [PyData.canLay0, PyData.strOk]
  simpa [okT, tS] using h⟩
instance {α : Type} [EqD α] : EqD (Option α) := ⟨fun x => match x with | none => .none | some y => EqD.pd y, fun x => match x with | none => true | some y => EqD.ok y, EqD.dep α, fun x => by
  cases x with
  | none => simp [PyData.depth]
  | some y => exact EqD.depOk y, fun x h => by
  cases x with
  | none => simp [PyData.canLay0]
  | some y => exact EqD.okOk y h⟩
theorem depthAll_le {α : Type} [EqD α] : ∀ xs : List α, PyData.depthAll (xs.map EqD.pd) ≤ EqD.dep α
  | [] => by simp [PyData.depthAll]
  | x :: xs => by
    have h1 := EqD.depOk x
    have h2 := depthAll_le xs
    simp only [List.map_cons, PyData.depthAll]
    omega
theorem canLayAll_of {α : Type} [EqD α] : ∀ xs : List α, xs.all EqD.ok = true → PyData.canLayAll0 (xs.map EqD.pd) = true
  | [], _ => by simp [PyData.canLayAll0]
  | x :: xs, h => by
    simp only [List.all_cons, Bool.and_eq_true] at h
    simp only [List.map_cons, PyData.canLayAll0, EqD.okOk x h.1, canLayAll_of xs h.2, Bool.and_self]
instance {α : Type} [EqD α] : EqD (List α) := ⟨fun xs => .list (xs.map EqD.pd), fun xs => xs.all EqD.ok, EqD.dep α + 1, fun xs => by
  have := depthAll_le xs
  simp only [PyData.depth]
  omega, fun xs h => by
  simp only [PyData.canLay0]
  exact canLayAll_of xs h⟩
instance {α γ : Type} [EqD α] [EqD γ] : EqD (α × γ) := ⟨fun x => .tuple [EqD.pd x.1, EqD.pd x.2], fun x => EqD.ok x.1 && EqD.ok x.2, max (EqD.dep α) (EqD.dep γ) + 1, fun x => by
  have h1 := EqD.depOk x.1
  have h2 := EqD.depOk x.2
  simp only [PyData.depth, PyData.depthAll]
  omega, fun x h => by
  simp only [Bool.and_eq_true] at h
  simp only [PyData.canLay0, PyData.canLayAll0, EqD.okOk _ h.1, EqD.okOk _ h.2, Bool.and_self]⟩
instance {α γ δ : Type} [EqD α] [EqD γ] [EqD δ] : EqD (T3 α γ δ) := ⟨fun x => .tuple [EqD.pd x.a, EqD.pd x.b, EqD.pd x.c], fun x => EqD.ok x.a && (EqD.ok x.b && EqD.ok x.c), max (EqD.dep α) (max (EqD.dep γ) (EqD.dep δ)) + 1, fun x => by
  have h1 := EqD.depOk x.a
  have h2 := EqD.depOk x.b
  have h3 := EqD.depOk x.c
  simp only [PyData.depth, PyData.depthAll]
  omega, fun x h => by
  simp only [Bool.and_eq_true] at h
  simp only [PyData.canLay0, PyData.canLayAll0, EqD.okOk _ h.1, EqD.okOk _ h.2.1, EqD.okOk _ h.2.2, Bool.and_self]⟩
instance {α γ : Type} [EqD α] [EqD γ] : EqD (α ⊕ γ) := ⟨fun x => match x with | .inl y => EqD.pd y | .inr y => EqD.pd y, fun x => match x with | .inl y => EqD.ok y | .inr y => EqD.ok y, max (EqD.dep α) (EqD.dep γ), fun x => by
  cases x with
  | inl y => exact Nat.le_trans (EqD.depOk y) (Nat.le_max_left _ _)
  | inr y => exact Nat.le_trans (EqD.depOk y) (Nat.le_max_right _ _), fun x h => by
  cases x with
  | inl y => exact EqD.okOk y h
  | inr y => exact EqD.okOk y h⟩
instance : EqR K Int := ⟨fun {F x v} h => by rw [show v = .int x from h]; exact .int _⟩
instance : EqR K Bool := ⟨fun {F x v} h => by rw [show v = .bl x from h]; exact .bl _⟩
instance : EqR K Unit := ⟨fun {F x v} h => by rw [show v = .non from h]; exact .non⟩
instance : EqR K Tx := ⟨fun {F x v} h => by rw [show v = .str (tS x) from h]; exact .str _⟩
instance {α : Type} [Rep K α] [EqD α] [EqR K α] : EqR K (Option α) := ⟨fun {F x v} h => by
  cases x with
  | none => rw [show v = .non from h]; exact .non
  | some y => exact EqR.dp (K := K) (α := α) h⟩
theorem dpAll_of {α : Type} [Rep K α] [EqD α] [EqR K α] {F : Hp} : ∀ {xs : List α} {vs : List V}, RpAll (Rep.rp K F) xs vs → DpAll K F vs (xs.map EqD.pd)
  | [], [], _ => .nil
  | x :: xs, v :: vs, h => .cons (EqR.dp h.1) (dpAll_of h.2)
  | [], _ :: _, h => h.elim
  | _ :: _, [], h => h.elim
instance {α : Type} [Rep K α] [EqD α] [EqR K α] : EqR K (List α) := ⟨fun {F x v} h => by
  obtain ⟨p, vs, rfl, h2, h3⟩ := h
  exact .lst (.of h2) (dpAll_of h3)⟩
instance {α γ : Type} [Rep K α] [EqD α] [EqR K α] [Rep K γ] [EqD γ] [EqR K γ] : EqR K (α × γ) := ⟨fun {F x v} h => by
  obtain ⟨p, u, w, rfl, h2, h3, h4⟩ := h
  exact .tup h2 (.cons (EqR.dp h3) (.cons (EqR.dp h4) .nil))⟩
instance {α γ δ : Type} [Rep K α] [EqD α] [EqR K α] [Rep K γ] [EqD γ] [EqR K γ] [Rep K δ] [EqD δ] [EqR K δ] : EqR K (T3 α γ δ) := ⟨fun {F x v} h => by
  obtain ⟨p, u, w, z, rfl, h2, h3, h4, h5⟩ := h
  exact .tup h2 (.cons (EqR.dp h3) (.cons (EqR.dp h4) (.cons (EqR.dp h5) .nil)))⟩
instance {α γ : Type} [Rep K α] [EqD α] [EqR K α] [Rep K γ] [EqD γ] [EqR K γ] : EqR K (α ⊕ γ) := ⟨fun {F x v} h => by
  cases x with
  | inl y => exact EqR.dp (K := K) (α := α) h
  | inr y => exact EqR.dp (K := K) (α := γ) h⟩
mutual
theorem dp_mono {F H : Hp} (e : Ex F H) : ∀ {v : V} {d : PyData}, Dp K F v d → Dp K H v d
  | _, _, .non => .non
  | _, _, .bl b => .bl b
  | _, _, .int i => .int i
  | _, _, .str x => .str x
  | _, _, .lst h h2 => .lst (e.sqL h) (dpAll_mono e h2)
  | _, _, .tup h h2 => .tup (e.sqT h) (dpAll_mono e h2)
theorem dpAll_mono {F H : Hp} (e : Ex F H) : ∀ {v : List V} {d : List PyData}, DpAll K F v d → DpAll K H v d
  | _, _, .nil => .nil
  | _, _, .cons h h2 => .cons (dp_mono e h) (dpAll_mono e h2)
end
def gEqD {α γ : Type} [EqD α] [EqD γ] (x : α) (y : γ) : Option Bool := if EqD.ok x = true ∧ EqD.ok y = true ∧ EqD.dep α ≤ 64 ∧ EqD.dep γ ≤ 64 then some (PyData.eqv (EqD.pd x) (EqD.pd y)) else none
def gNeD {α γ : Type} [EqD α] [EqD γ] (x : α) (y : γ) : Option Bool := if EqD.ok x = true ∧ EqD.ok y = true ∧ EqD.dep α ≤ 64 ∧ EqD.dep γ ≤ 64 then some (!PyData.eqv (EqD.pd x) (EqD.pd y)) else none
theorem shaped_of {α : Type} [EqD α] {x : α} (h : EqD.ok x = true) (h2 : EqD.dep α ≤ 64) : SeqAt.shaped (EqD.pd x) = true := by
  unfold SeqAt.shaped
  rw [EqD.okOk x h, Bool.true_and]
  exact decide_eq_true (Nat.le_trans (EqD.depOk x) h2)
theorem o2_eqD {α γ : Type} [Rep K α] [EqD α] [EqR K α] [Rep K γ] [EqD γ] [EqR K γ] : Op2 K (α := α) (γ := γ) (rEqD K) gEqD := fun F H x y z v w ex e r1 r2 Q q => by
  unfold gEqD at e
  split at e
  · rename_i h
    cases e
    exact ⟨_, _, dp_mono ex (EqR.dp r1), dp_mono ex (EqR.dp r2), shaped_of h.1 h.2.2.1, shaped_of h.2.1 h.2.2.2, q _ F H (.refl ex) rfl⟩
  · cases e
theorem o2_neD {α γ : Type} [Rep K α] [EqD α] [EqR K α] [Rep K γ] [EqD γ] [EqR K γ] : Op2 K (α := α) (γ := γ) (rNeD K) gNeD := fun F H x y z v w ex e r1 r2 Q q => by
  unfold gNeD at e
  split at e
  · rename_i h
    cases e
    exact ⟨_, _, dp_mono ex (EqR.dp r1), dp_mono ex (EqR.dp r2), shaped_of h.1 h.2.2.1, shaped_of h.2.1 h.2.2.2, q _ F H (.refl ex) rfl⟩
  · cases e
/-! eqv is equality -/
class EqL (α : Type) [EqD α] : Prop where
  eqv : ∀ x y : α, PyData.eqv (EqD.pd x) (EqD.pd y) = true ↔ x = y
class NonN (α : Type) [EqD α] : Prop where
  nn : ∀ x : α, PyData.eqv .none (EqD.pd x) = false ∧ PyData.eqv (EqD.pd x) .none = false
instance : EqL Int := ⟨fun x y => by simp [EqD.pd, PyData.eqv]⟩
instance : EqL Bool := ⟨fun x y => by simp [EqD.pd, PyData.eqv]⟩
instance : EqL Unit := ⟨fun x y => by simp [EqD.pd, PyData.eqv]⟩
instance : EqL Tx := ⟨fun x y => by
  simp only [EqD.pd, PyData.eqv, beq_iff_eq]
  exact ⟨tS_inj, fun h => by rw [h]⟩⟩
instance : NonN Int := ⟨fun x => by simp [EqD.pd, PyData.eqv]⟩
instance : NonN Bool := ⟨fun x => by simp [EqD.pd, PyData.eqv]⟩
instance : NonN Tx := ⟨fun x => by simp [EqD.pd, PyData.eqv]⟩
instance {α : Type} [EqD α] : NonN (List α) := ⟨fun x => by simp [EqD.pd, PyData.eqv]⟩
instance {α γ : Type} [EqD α] [EqD γ] : NonN (α × γ) := ⟨fun x => by simp [EqD.pd, PyData.eqv]⟩
instance {α γ δ : Type} [EqD α] [EqD γ] [EqD δ] : NonN (T3 α γ δ) := ⟨fun x => by simp [EqD.pd, PyData.eqv]⟩
instance {α : Type} [EqD α] [EqL α] [NonN α] : EqL (Option α) := ⟨fun x y => by
  cases x with
  | none =>
    cases y with
    | none => simp [EqD.pd, PyData.eqv]
    | some y => simp [EqD.pd, (NonN.nn y).1]
  | some x =>
    cases y with
    | none => simp [EqD.pd, (NonN.nn x).2]
    | some y =>
      show PyData.eqv (EqD.pd x) (EqD.pd y) = true ↔ _
      rw [EqL.eqv, Option.some.injEq]⟩
theorem eqvAll_iff {α : Type} [EqD α] [EqL α] : ∀ xs ys : List α, PyData.eqvAll (xs.map EqD.pd) (ys.map EqD.pd) = true ↔ xs = ys
  | [], [] => by simp [PyData.eqvAll]
  | [], y :: ys => by simp [PyData.eqvAll]
  | x :: xs, [] => by simp [PyData.eqvAll]
  | x :: xs, y :: ys => by
    simp only [List.map_cons, PyData.eqvAll, Bool.and_eq_true, EqL.eqv, eqvAll_iff xs ys, List.cons.injEq]
instance {α : Type} [EqD α] [EqL α] : EqL (List α) := ⟨fun x y => by
  show PyData.eqv (.list _) (.list _) = true ↔ _
  simp only [PyData.eqv]
  exact eqvAll_iff x y⟩
instance {α γ : Type} [EqD α] [EqD γ] [EqL α] [EqL γ] : EqL (α × γ) := ⟨fun x y => by
  obtain ⟨a, b⟩ := x
  obtain ⟨c, d⟩ := y
  simp only [EqD.pd, PyData.eqv, PyData.eqvAll, Bool.and_true, Bool.and_eq_true, EqL.eqv, Prod.mk.injEq]⟩
instance {α γ δ : Type} [EqD α] [EqD γ] [EqD δ] [EqL α] [EqL γ] [EqL δ] : EqL (T3 α γ δ) := ⟨fun x y => by
  obtain ⟨a, b, e⟩ := x
  obtain ⟨c, d, g⟩ := y
  simp only [EqD.pd, PyData.eqv, PyData.eqvAll, Bool.and_true, Bool.and_eq_true, EqL.eqv, T3.mk.injEq]⟩
theorem gEqD_ok {α : Type} [EqD α] [EqL α] [DecidableEq α] {x y : α} (h1 : EqD.ok x = true) (h2 : EqD.ok y = true) (h3 : EqD.dep α ≤ 64 := by decide) : gEqD x y = some (decide (x = y)) := by
  unfold gEqD
  rw [if_pos ⟨h1, h2, h3, h3⟩]
  congr 1
  rw [Bool.eq_iff_iff, EqL.eqv, decide_eq_true_iff]
theorem gNeD_ok {α : Type} [EqD α] [EqL α] [DecidableEq α] {x y : α} (h1 : EqD.ok x = true) (h2 : EqD.ok y = true) (h3 : EqD.dep α ≤ 64 := by decide) : gNeD x y = some (!decide (x = y)) := by
  have := gEqD_ok (x := x) (y := y) h1 h2 h3
  unfold gEqD at this
  unfold gNeD
  rw [if_pos ⟨h1, h2, h3, h3⟩] at this ⊢
  rw [Option.some.inj this]
end
end Tw

namespace Tw
open PySem L2 PySem.Spec PyProof.Rows
/-! t[::-1] of a text -/
section
variable {X : Cx}
def tRevS (te : TE) : TE := fun σ H Q => te σ H fun x H1 => ∃ z, x = .str z ∧ z.length ≤ sizeLine ∧ Q (.str ⟨z.cps.toList.reverse.toArray⟩) H1
theorem rev_pick (z : Str) : (Builtin.Str.strSliceIndices none none (-1) z.length).filterMap (z.cps[·]?) = z.cps.toList.reverse := by
  rw [picked_rev, filterMap_get]
  · apply List.ext_getElem?
    intro i
    rw [List.map_map, List.getElem?_map]
    by_cases hi : i < z.length
    · rw [List.getElem?_range hi, List.getElem?_reverse (by simpa [Str.length] using hi)]
      have h2 : z.length - 1 - i < z.cps.size := by
        have : z.length = z.cps.size := rfl
        omega
      have hl : z.length = z.cps.size := rfl
      have e1 : z.cps.toList.length - 1 - i = z.length - 1 - i := rfl
      rw [e1]
      simp only [Option.map_some, Function.comp_apply]
      rw [Array.getElem?_toList, Array.getElem?_eq_getElem h2]
      simp [Array.getD, h2]
    · rw [List.getElem?_eq_none (by simpa using hi), List.getElem?_eq_none (by simpa [Str.length] using hi)]
      rfl
  · intro i hi
    obtain ⟨k, hk, rfl⟩ := List.mem_map.mp hi
    have hk' : k < z.length := List.mem_range.mp hk
    show z.length - 1 - k < z.length
    omega
theorem pe_revS {e : Expr} {te : TE} {k : Nat} {p1 p2 p3 pos : Pos} (he : PE X e te) : PE X (.Subscript e (.Slice none none (some (.UnaryOp .USub (.Constant (.int 1) k p1) p2)) p3) pos) (tRevS te) := by
  refine ⟨fun pins s σ H Q I h => ?_⟩
  refine Subscript_ (thn (he.run pins s σ H _ I h) fun v s1 ⟨x, H1, I1, r1, q1⟩ => ?_)
  obtain ⟨z, ex, hz, q⟩ := q1
  subst ex
  obtain ⟨t, rfl⟩ := r1
  have hst : PO X (some (.UnaryOp .USub (.Constant (.int 1) k p1) p2)) (tPart (tUn (rU fun i => .int (-i)) (tC (.int 1)))) := po_some (pe_un un_neg pe_int)
  refine wpAny_Slice (thn (po_none.run pins s1 σ H1 (fun o H2 => o = none ∧ H2 = H1) I1 ⟨rfl, rfl⟩) fun vl s2 ⟨l, H2, I2, pl, el, e2⟩ => ?_)
  subst el e2
  refine thn (po_none.run pins s2 σ H2 (fun o H3 => o = none ∧ H3 = H2) I2 ⟨rfl, rfl⟩) fun vu s3 ⟨u, H3, I3, pu, eu, e3⟩ => ?_
  subst eu e3
  refine thn (hst.run pins s3 σ H3 (fun o H4 => o = some (-1) ∧ H4 = H3) I3 ⟨1, rfl, -1, rfl, rfl, rfl⟩) fun vs s4 ⟨o, H4, I4, ps, eo, e4⟩ => ?_
  subst eo e4
  have I5 : Inv X pins σ H4 { s4 with heap := s4.heap.push { cls := .type "slice", data := .fields #[vl, vu, vs] } } := I4.kept (t' := s4.toks) fun b ob q => Heap.get?_push_of_some _ q
  obtain ⟨ol, rfl, el⟩ := IsPart.raw pl
  obtain ⟨ou, rfl, eu⟩ := IsPart.raw pu
  obtain ⟨ot, rfl, es⟩ := IsPart.raw ps
  obtain ⟨os, hos, hcs, hds⟩ := Heap.IsSliceOf.new s4.heap (partValue ol) (partValue ou) (partValue ot)
  show wpAny (model X.prog X.w) X.A (subscriptTail e (.Slice none none (some (.UnaryOp .USub (.Constant (.int 1) k p1) p2)) p3) (.str z t) (.ref s4.heap.objs.size)) (EP X pins σ Q) X.xe { s4 with heap := s4.heap.push { cls := .type "slice", data := .fields #[partValue ol, partValue ou, partValue ot] } }
  refine tail_any (ops := [.ref s4.heap.objs.size, .str z t]) (typeIs_str _ _ _) (F.slot_str_getitem.lookup) ?_ (by with_unfolding_all rfl)
  refine wpAny_getItem_str_slice (l := ol) (u := ou) (st := ot) ⟨os, hos, hcs, hds⟩ (by rw [es]; decide) ?_
  unfold sliceMade slicePicked
  rw [el, eu, es]
  show Made.post (if ((-1 : Int) == 1 && _) = true then _ else Made.str ⟨((Builtin.Str.strSliceIndices none none (-1) z.length).filterMap (z.cps[·]?)).toArray⟩) _ _
  rw [if_neg (by rw [show ((-1 : Int) == 1) = false from rfl, Bool.false_and]; exact Bool.false_ne_true), rev_pick]
  refine ⟨?_, .str _, H4, I5.tok _, ⟨_, rfl⟩, q⟩
  show (z.cps.toList.reverse.toArray).size ≤ sizeLine
  rw [List.size_toArray, List.length_reverse]
  exact hz
end
section
variable {K : PySem.W.Frag} {β : Type} {env : List Sl} {f : β → List OV}
def gRevS (x : Tx) : Option Tx := if x.length ≤ line then some x.reverse else none
theorem es_revS {te : TE} {m : M β β Tx} (h : Es K te env f m) : Es K (tRevS te) env f (mMapO gRevS m) := by
  intro as σ F H b S y b' hm Q q
  obtain ⟨x, b1, e1, hm⟩ := bd_some hm
  obtain ⟨e2, rfl⟩ := ov_some hm
  unfold gRevS at e2
  split at e2
  · rename_i hl
    cases e2
    refine h as σ F H b S x b' e1 _ fun v F1 H1 n1 o1 r1 => ⟨tS x, r1, by rw [tS_len, sizeLine_eq]; exact hl, q _ F1 H1 n1 o1 ?_⟩
    show V.str _ = V.str _
    rw [tS_cps]
    rfl
  · cases e2
/-! the box of draws: a list of a row and a place -/
abbrev Bx := List Int × Int
def ovB (K : PySem.W.Frag) (b : Bx) : OV := ⟨fun F H a => ∃ r, H a = some (.lst [r, .int b.2]) ∧ Rep.rp K F b.1 r, fun e h ⟨r, h1, h2⟩ => ⟨r, by rw [h]; exact h1, Rep.mono e h2⟩⟩
def fB (K : PySem.W.Frag) : Bx → List OV := fun b => [ovB K b]
theorem es_box0 {i k : Nat} {get : β → Bx} (hi : env[i]? = some (.own k)) (hg : ∀ b, (f b)[k]? = some (ovB K (get b))) : Es K (tOp (rIxL K) (tVar i) (tC (.int 0))) env f (fun b => some ((get b).1, b)) := by
  intro as σ F H b S y b' hm Q q
  cases hm
  obtain ⟨p, h1, h2, h3, h4, r, h5, h6⟩ := S.at_ hi (hg b)
  exact ⟨.ref p, h2, p, _, 0, r, rfl, rfl, .of h5, rfl, q r F H (.refl S.ex) S.os h6⟩
theorem es_box1 {i k : Nat} {get : β → Bx} (hi : env[i]? = some (.own k)) (hg : ∀ b, (f b)[k]? = some (ovB K (get b))) : Es K (tOp (rIxL K) (tVar i) (tC (.int 1))) env f (fun b => some ((get b).2, b)) := by
  intro as σ F H b S y b' hm Q q
  cases hm
  obtain ⟨p, h1, h2, h3, h4, r, h5, h6⟩ := S.at_ hi (hg b)
  exact ⟨.ref p, h2, p, _, 1, .int (get b).2, rfl, rfl, .of h5, rfl, q _ F H (.refl S.ex) S.os rfl⟩
theorem ss_box1 {β2 γ ρ : Type} [Rep K ρ] {f2 : β2 → List OV} {eN : γ → List Sl} {i k : Nat} {te : TE} {tr : TS} {ma : M β β Int} {get : β → Bx} {put : β → Bx → β} {mr : M β β2 (Fl γ ρ)} (hi : env[i]? = some (.own k)) (hg : ∀ b, (f b)[k]? = some (ovB K (get b))) (hp : ∀ b l, f (put b l) = (f b).set k (ovB K l))
    (ha : Es K te env f ma) (hr : Ss K tr env f f2 mr eN) :
    Ss K (tSeq (tAsg te (gSub (tVar i) (tC (.int 1)) rSetL)) tr) env f f2 (bd (bd ma fun x => fun b => some ((), put b ((get b).1, x))) fun _ => mr) eN := by
  intro as σ F H b S o b' hm D q
  obtain ⟨_, b2, e2, hm⟩ := bd_some hm
  obtain ⟨x, b1, e1, e2⟩ := bd_some e2
  cases e2
  refine ha as σ F H b S x b1 e1 _ fun v F1 H1 n1 o1 r1 => ?_
  have S1 := S.step n1 o1
  obtain ⟨p, h1, h2, h3, h4, r, h5, h6⟩ := S1.at_ hi (hg b1)
  have r1' : v = .int x := r1
  subst r1'
  refine ⟨.ref p, h2, p, _, 1, 1, rfl, rfl, h5, rfl, ?_⟩
  have n2 : Nx as F1 H1 F1 (upd H1 p (.lst [r, .int x])) := Nx.mut n1.fh h4 h3
  have o2 := o1.put (o := .lst [r, .int x]) (ow := ovB K ((get b1).1, x)) h1 ⟨r, upd_same, h6⟩
  rw [← hp] at o2
  exact hr as σ F1 _ _ ⟨n2.fh, o2, S1.env⟩ o b' hm D ((q.step n1).step n2)
def newB {β2 δ : Type} (m : M Bx β2 δ) (r : List Int) : M Unit β2 δ := fun _ => m (r, 0)
/-- a pair [row, place] is made and owned; the rest -/
theorem ss_newB {β2 γ ρ : Type} [Rep K ρ] {f2 : β2 → List OV} {eN : γ → List Sl} {i : Nat} {t1 : TE} {tr : TS} {m1 : M Unit Unit (List Int)} {mr : M Bx β2 (Fl γ ρ)} (h1 : Es K t1 env f0 m1)
    (hr : Ss K tr (env.set i (.own 0)) (fB K) f2 mr eN) (h2 : ∀ b, (f2 b).length = 0 := by exact fun _ => rfl) :
    Ss K (tSeq (tAsg (tLst (tCons t1 (tCons (tC (.int 0)) tNil))) (gName i)) tr) env f0 f2 (bd m1 fun r => newB mr r) eN := by
  intro as σ F H b S o b' hm D q
  obtain ⟨x, b1, e1, hm⟩ := bd_some hm
  refine h1 as σ F H b S x b1 e1 _ fun v F1 H1 n1 o1 r1 => ⟨by show 2 ≤ sizeLine; rw [sizeLine_eq]; decide, fun p hp => ?_⟩
  have has : as = [] := List.length_eq_zero_iff.mp S.os.2.1
  subst has
  have n2 : Nx [] F1 H1 F1 (upd H1 p (.lst [v, .int 0])) := Nx.newO n1.fh hp
  have hF : F1 p = none := n1.fh.none hp
  have o2 : OsOk [p] (fB K (x, 0)) F1 (upd H1 p (.lst [v, .int 0])) := ⟨by simp, rfl, fun i a w g1 g2 => by
    cases i with
    | zero =>
      cases g1
      cases g2
      exact ⟨hF, by rw [upd_same]; exact nofun, v, upd_same, r1⟩
    | succ i => simp at g1⟩
  have ev := ((S.env.mono n1.ff).own (i := i) (p := p))
  refine hr [p] _ F1 _ (x, 0) ⟨n2.fh, o2, ev⟩ o b' hm D ?_
  have back : ∀ {F' H'}, Nx [p] F1 (upd H1 p (.lst [v, .int 0])) F' H' → Nx [] F H F' H' := fun {F' H'} n => by
    refine n1.trans ?_
    have ne : ∀ a, H1 a ≠ none → a ≠ p := fun a h z => h (by rw [z]; exact hp)
    refine ⟨n.ff, n.fh, fun a u h e => ?_, fun a m h => n.old a (fun z => ne a h (by simpa using z)) (by rw [upd_ne (ne a h)]; exact h), fun a h => n.there a (by rw [upd_ne (ne a h)]; exact h)⟩
    have hne : a ≠ p := ne a (by rw [e]; exact nofun)
    exact n.keep a u (fun m => hne (by simpa using m)) (by rw [upd_ne hne]; exact e)
  have tk : ∀ b : β2, ([p] : List Addr).take (f2 b).length = ([] : List Addr).take (f2 b).length := fun b => by rw [h2 b]; rfl
  cases o with
  | nx g => exact fun σ' F' H' n' S' => q σ' F' H' (back n') (by rw [← tk]; exact S')
  | bk g => exact fun σ' F' H' n' S' => q σ' F' H' (back n') (by rw [← tk]; exact S')
  | ct g => exact fun σ' F' H' n' S' => q σ' F' H' (back n') (by rw [← tk]; exact S')
  | rt r => exact fun v F' H' n' o' => q v F' H' (back n') (by rw [← tk]; exact o')
def mRetD {β β2 α γ : Type} (j : β → β2) (ma : M β β α) : M β β2 (Fl γ α) := bd ma fun x => rtD j x
theorem ss_retD {β β2 γ ρ : Type} [Rep K ρ] {env : List Sl} {f : β → List OV} {f2 : β2 → List OV} {eN : γ → List Sl} {te : TE} {ma : M β β ρ} {j : β → β2} (ha : Es K te env f ma) (hj : DropF f f2 j) : Ss K (tRet te) env f f2 (mRetD j ma) eN := by
  intro as σ F H b S o b' hm D q
  obtain ⟨x, b1, e1, hm⟩ := bd_some hm
  have hm : some ((Fl.rt x : Fl γ ρ), j b1) = some (o, b') := hm
  cases hm
  exact ha as σ F H b S x b1 e1 _ fun v F1 H1 n1 o1 r1 => q v F1 H1 n1 (hj.ok o1) r1
theorem ss_pass {β β2 γ ρ : Type} [Rep K ρ] {env : List Sl} {f : β → List OV} {f2 : β2 → List OV} {eN : γ → List Sl} {tr : TS} {mr : M β β2 (Fl γ ρ)} (hr : Ss K tr env f f2 mr eN) : Ss K (tSeq tNext tr) env f f2 mr eN := by
  intro as σ F H b S o b' hm D q
  exact hr as σ F H b S o b' hm D q
end
/-! ### the text's defs, from what the top has left -/
theorem raw_mk {K : PySem.W.Frag} {h : Heap} {mg : Str → Option Value} {x : Str} {ps : List Str} {st : Stmt} {f : Addr} {oc : Value} {od an : Option Addr} {osl : Array (Option Value)} {kV doc pm cdv ct : Value} (X : K.In h) (G : h.Ns mainGlobals mg)
    (hb : ∀ (kV doc pm : Value) (an : Option Addr) (cdv ct : Value) (us : List Value), us.length = ps.length → bindArgs (PySem.W.fnOf x x (defArgs st) (defBody st) (defScope st) .none kV doc pm an cdv ct) ⟨us, []⟩ = pure (ps.zip us))
    (a : PySem.W.nsIn K mainGlobals x = some (some (.ref f))) (l : K.lookup f = some ⟨oc, od, .func (PySem.W.fnOf x x (defArgs st) (defBody st) (defScope st) .none kV doc pm an cdv ct), osl⟩) (c : PySem.W.codeIn K cdv x = true) (k : PySem.W.keepIn K (.ref f) = true) : Raw K mg x ps st :=
  ⟨f, _, fun_mk l c k, PySem.W.mg_of X G a, k, (fun_mk l c k).binds hb⟩
theorem bt_min : bootBuiltins "min" = some (.builtin "min") := by decide +kernel
theorem bt_len : bootBuiltins "len" = some (.builtin "len") := by decide +kernel
theorem bt_abs : bootBuiltins "abs" = some (.builtin "abs") := by decide +kernel
theorem bt_int : bootBuiltins "int" = some (.type "int") := by decide +kernel
theorem sp_law {K : PySem.W.Frag} {mc : Scr × Unit → M Unit Unit Bool} {H : Hp} {a : Addr} {ns : List Int} (h : SqL K H a (ns.map V.int)) (e : mc (⟨ns⟩, ()) () = some (true, ())) : sp K f0 mc [.ref a] H (fun v _ => v = .bl true) (fun _ _ _ => False) :=
  ⟨[], [.ref a], H, (), (), (⟨ns⟩, ()), true, rfl, .refl H, .nil, ⟨.ref a, [], rfl, ⟨a, rfl, h⟩, rfl⟩, e, fun _ _ _ _ _ r => r⟩
end Tw

/-! Dicts whose keys are ints or None (only which keys there are is told): made by a comprehension, asked by `in`. -/
namespace Tw
open PySem L2 PySem.Spec PyProof.Rows
def lf : Option Int → Leaf
  | none => .none
  | some i => .num i
def vO : Option Int → V
  | none => .non
  | some i => .int i
theorem lf_inj {a b : Option Int} (h : lf a = lf b) : a = b := by
  cases a <;> cases b <;> simp_all [lf]
theorem lf_is {P : Program} {w : World} {o : Option Int} {u : Value} (h : RelV (vO o) u) : (leafKind P w).is (lf o) u = true := by
  cases o with
  | none =>
    cases h
    rfl
  | some i =>
    obtain ⟨t, rfl⟩ := h
    show Leaf.isOf (.num i) (.int i t) = true
    simp [Leaf.isOf]
/-- the keys of the dict at a are ks -/
def dN (P : Program) (w : World) (a : Addr) (ks : List (Option Int)) : HO := .ext fun h => (a == sysModules) = false ∧ ∃ vs : List (Leaf × Value), vs.length ≤ ks.length ∧ h.DictOf (leafKind P w) a vs ∧ ∀ o, (valueAt vs (lf o)).isSome = decide (o ∈ ks)
theorem dN_ok {P : Program} {w : World} {H : Hp} {h : Heap} {a : Addr} {ks : List (Option Int)} {vs : List (Leaf × Value)} (hd : (a == sysModules) = false) (hl : vs.length ≤ ks.length) (dd : h.DictOf (leafKind P w) a vs) (hv : ∀ o, (valueAt vs (lf o)).isSome = decide (o ∈ ks)) : ObjOk P w H h a (dN P w a ks) :=
  ⟨⟨hd, vs, hl, dd, hv⟩, let ⟨o, _, _, e, _⟩ := dd; ⟨o, e⟩, fun h1 h2 ⟨x1, ws, x2, x3, x4⟩ k => ⟨x1, ws, x2, x3.at k, x4⟩⟩
section
variable {X : Cx} {pins : List (Addr × Obj)} {σ : L2.St} {H : Hp} {s : Shared}
theorem dN_at {a : Addr} {ks : List (Option Int)} (I : Inv X pins σ H s) (h : H a = some (dN X.prog X.w a ks)) : (a == sysModules) = false ∧ ∃ vs : List (Leaf × Value), vs.length ≤ ks.length ∧ s.heap.DictOf (leafKind X.prog X.w) a vs ∧ ∀ o, (valueAt vs (lf o)).isSome = decide (o ∈ ks) := (I.hok a _ h).1
/-- a key is put in -/
theorem dN_put {E : Value → Shared → Prop} {a : Addr} {ks : List (Option Int)} {o : Option Int} {u r : Value} {Q : Unit → Shared → Prop} (I : Inv X pins σ H s) (h : H a = some (dN X.prog X.w a ks)) (hz : ks.length < sizeLine) (ru : RelV (vO o) u)
    (q : ∀ s', Inv X pins σ (upd H a (dN X.prog X.w a (o :: ks))) s' → Q () s') : wpAny (model X.prog X.w) X.A (dictSet a u r) Q E s := by
  obtain ⟨hd, vs, hl, dd, hv⟩ := dN_at I h
  refine wpAny_dictSet_pairs (hsz := by omega) (lf_is ru) dd fun h' dd' hs => q _ ?_
  have there : ∃ ob, h'.get? a = some ob := let ⟨ob, _, _, e, _⟩ := dd'; ⟨ob, e⟩
  refine d_write I (by rw [h]; exact True.intro) hs there (dN_ok hd ?_ dd' fun o' => ?_)
  · unfold stored
    split
    · rw [List.length_map, List.length_cons]; omega
    · rw [List.length_append, List.length_cons, List.length_cons]; simp; omega
  · rw [valueAt_stored]
    by_cases e : o' = o
    · rw [e, if_pos rfl]; simp
    · rw [if_neg fun z => e (lf_inj z), hv]
      simp [e]
/-- x in d -/
def rInN (P : Program) (w : World) : R2 := fun x y H Q => ∃ a ks o, x = vO o ∧ y = .ref a ∧ H a = some (dN P w a ks) ∧ Q (.bl (decide (o ∈ ks))) H
theorem op_inN : OpR X (compareOp .In) (rInN X.prog X.w) := by
  intro pins s σ H x y v u Q I rx ry h
  obtain ⟨a, ks, o, rfl, rfl, ha, q⟩ := h
  obtain rfl : u = Value.ref a := ry
  obtain ⟨hd, vs, hl, dd, hv⟩ := dN_at I ha
  refine wpAny_in_of (lf_is rx) hd dd.mapOf ?_
  rw [hv]
  exact ⟨.bl _, H, I.tok _, rfl, q⟩
/-- {k: v for target in iter if ..}, the keys ints or None: as L2.tDc, at another kind of keys -/
def tDcN (P : Program) (w : World) (wi : TI) (g : TG) (tt : TT) (tk tv : TE) (own : List Nat) : TE := fun σ H Q => wi σ H fun J H1 => ∀ D, H1 D = none → ∃ W : Nat → Nat → Hp → Prop, (∃ m, W 0 m (upd H1 D (dN P w D []))) ∧ ∀ i m H, W i m H →
  (J.stop i H ∧ Q (.ref D) H) ∨ (J.go i H ∧ ∃ Nx : Hp → Prop, (∀ H', Nx H' → ∃ m', m' < m ∧ W (i + 1) m' H') ∧
    ∀ x H', J.yld i H x H' → g x (wipe σ own) H' fun σ2 H2 => wipe σ2 own = wipe σ own ∧ tt σ2 H2 fun b H3 =>
      if b = true then tk σ2 H3 fun y H4 => tv σ2 H4 fun _ H5 => ∃ ks o, y = vO o ∧ H5 D = some (dN P w D ks) ∧ ks.length < sizeLine ∧ Nx (upd H5 D (dN P w D (o :: ks))) else Nx H3)
theorem pe_dcN {kx vx tg iter : Expr} {ifs : List Expr} {scope : Scope} {own : List (Str × Nat)} {pos : Pos} {wi : TI} {g : TG} {tt : TT} {tk tv : TE} (hc : X.calm = true) (hN : X.N.Nodup) (hi : PI X tg iter wi) (ok : BlkOk X.N X.env.scope scope own)
    (hg : ∀ s H C cl fp, PG (X.blk s H scope (compEnvC scope cl C X.env) fp) tg g) (ht : ∀ s H C cl fp, PTs (X.blk s H scope (compEnvC scope cl C X.env) fp) ifs tt)
    (hk : ∀ s H C cl fp, PE (X.blk s H scope (compEnvC scope cl C X.env) fp) kx tk) (he : ∀ s H C cl fp, PE (X.blk s H scope (compEnvC scope cl C X.env) fp) vx tv)
    (hs : ∀ x, foldedSetIterable iter X.env x = pure x := by intro _; rfl) : PE X (.DictComp kx vx [⟨tg, iter, ifs, 0⟩] scope pos) (tDcN X.prog X.w wi g tt tk tv (own.map (·.2))) := by
  refine ⟨fun pins s0 σ H0 Q I0 hw => ?_⟩
  rw [arm_eval_DictComp]
  -- the names that the block takes from around are cells there
  have cells : ∀ y ∈ scope.names, y.2 = .free → ∃ c, X.env.cells.lookup y.1 = some c := by
    intro y hy fr
    cases ok.free y hy fr with
    | inl k => exact I0.ok.has _ (.inl k)
    | inr k => exact I0.ok.has _ (.inr k)
  refine wpAny_comprehension_free rfl hs (closure_ok cells) ok.kind (fun y hy fr => (ok.uniq y hy).trans (congrArg some fr)) ?_
  refine thn (hi.run pins s0 σ H0 _ I0 hw) fun _ s1 w1 => thn w1 fun itv s2 w2 => ?_
  obtain ⟨it, fp, tn, J, H2, itv_eq, I2, T, t0, free0, goal⟩ := w2
  subst itv_eq
  -- the new dict
  refine wpAny_newObj_type (newEnv_comp ?_)
  have notyet : H2 s2.heap.objs.size = none := I2.hok.fresh (Nat.le_refl _)
  obtain ⟨W, ⟨m0, w0⟩, turns⟩ := goal s2.heap.objs.size notyet
  generalize eD : s2.heap.objs.size = D at *
  obtain ⟨s3, es3⟩ : ∃ s3 : Shared, s3 = { s2 with heap := s2.heap.push { cls := .type "dict", data := .dict #[] } } := ⟨_, rfl⟩
  have heap3 : s3.heap = s2.heap.push { cls := .type "dict", data := .dict #[] } := by rw [es3]
  have grown : ∀ b o, s2.heap.get? b = some o → s3.heap.get? b = some o := fun b o e => by rw [heap3]; exact Heap.get?_push_of_some _ e
  have I3 : Inv X pins σ (upd H2 D (dN X.prog X.w D [])) s3 := by
    rw [es3]
    refine I2.laid (t' := s2.toks) (fun b o e => Heap.get?_push_of_some _ e) (Nat.le_of_eq eD) ?_
    rw [← eD]
    exact dN_ok (beq_eq_false_iff_ne.mpr (Ne.symm (Nat.ne_of_lt I2.big))) (Nat.le_refl _) (Heap.DictOf.new s2.heap) fun o => by simp [valueAt]
  have below : ∀ b ∈ fp, b < D := fun b hb => by
    obtain ⟨o, e, _⟩ := T.obj _ _ t0 b hb
    rw [← eD]
    exact Heap.lt_size e
  have fpOk : ∀ b ∈ fp, FpOk X pins (upd H2 D (dN X.prog X.w D [])) b ∧ b < s3.heap.objs.size := fun b hb => by
    have lt := below b hb
    refine ⟨⟨(upd_ne (Nat.ne_of_lt lt)).trans (free0 b hb).1, (free0 b hb).2⟩, ?_⟩
    rw [heap3, Heap.size_push, eD]
    exact Nat.lt_succ_of_lt lt
  have t3 : tn 0 s3.heap := T.keep _ _ _ t0 fun b _ o e => grown b o e
  have I4 := block_start I3 ok hN fpOk
  -- the block's pieces in its own context
  have pg := hg s3 (upd H2 D (dN X.prog X.w D [])) s3.heap.objs.size (cellsFrom (s3.heap.objs.size + 1) scope.names (cloFrom X.env.cells scope.names [])) fp
  have pt := ht s3 (upd H2 D (dN X.prog X.w D [])) s3.heap.objs.size (cellsFrom (s3.heap.objs.size + 1) scope.names (cloFrom X.env.cells scope.names [])) fp
  have pk := hk s3 (upd H2 D (dN X.prog X.w D [])) s3.heap.objs.size (cellsFrom (s3.heap.objs.size + 1) scope.names (cloFrom X.env.cells scope.names [])) fp
  have pv := he s3 (upd H2 D (dN X.prog X.w D [])) s3.heap.objs.size (cellsFrom (s3.heap.objs.size + 1) scope.names (cloFrom X.env.cells scope.names [])) fp
  rw [← es3]
  show codeAny _ _ (.compStart _ 0 (.ref it) (.ref D) (compEnvC scope (cellsFrom (s3.heap.objs.size + 1) scope.names (cloFrom X.env.cells scope.names [])) s3.heap.objs.size X.env)) _ _
  have here : (compEnvC scope (cellsFrom (s3.heap.objs.size + 1) scope.names (cloFrom X.env.cells scope.names [])) s3.heap.objs.size X.env).locals = s3.heap.objs.size := rfl
  generalize compEnvC scope (cellsFrom (s3.heap.objs.size + 1) scope.names (cloFrom X.env.cells scope.names [])) s3.heap.objs.size X.env = ce at I4 pg pt pk pv here ⊢
  obtain ⟨s4, es4⟩ : ∃ s4 : Shared, s4 = { s3 with heap := pushCells (s3.heap.push { cls := .type "dict", data := .dict #[] }) scope.names } := ⟨_, rfl⟩
  rw [← es4] at I4 ⊢
  have t4 : tn 0 s4.heap := T.keep _ _ _ t3 fun b _ o e => by rw [es4]; exact pushCells_keeps _ _ _ _ (Heap.get?_push_of_some _ e)
  have still : ∀ {τ : L2.St} {H' : Hp} {s' : Shared}, Inv (X.blk s3 (upd H2 D (dN X.prog X.w D [])) scope ce fp) [] τ H' s' → (∀ b ∈ fp, H' b = none) → ∀ b ∈ fp, FpOk (X.blk s3 (upd H2 D (dN X.prog X.w D [])) scope ce fp) [] H' b := by
    intro τ H' s' J' nn b hb
    refine ⟨nn b hb, (J'.ok.exf b hb).1, J'.ok.exfs b hb, Or.inl hb, fun x c e => (J'.ok.exf b hb).2 x c e, ?_⟩
    intro p hp
    exact absurd (show p ∈ ([] : List (Addr × Obj)) from by simpa using hp) (by simp)
  refine codeAny_compStart_dict ?_ (T.self X.A 0 _ _ _ t4 ?_)
  all_goals refine compLoop_anyD (fun n s' => ∃ i H', Inv (X.blk s3 (upd H2 D (dN X.prog X.w D [])) scope ce fp) [] (wipe σ (own.map (·.2))) H' s' ∧ tn i s'.heap ∧ (∀ b ∈ fp, H' b = none) ∧ W i n H') ?_ m0 ⟨0, _, I4, t4, fun b hb => (fpOk b hb).1.1, w0⟩
  all_goals
    rintro n s5 ⟨i, H5, I5, t5, nn5, w5⟩
    rcases turns i n H5 w5 with ⟨stop, qq⟩ | ⟨go, N, hN', step⟩
    · -- the end: back among the def's names
      refine thnF (T.done (X.blk s3 (upd H2 D (dN X.prog X.w D [])) scope ce fp) rfl rfl rfl hc i [] s5 _ H5 (fun _ _ => False) I5 (still I5 nn5) t5 stop) fun r s6 ⟨hr, I6⟩ => ?_
      subst hr
      have I7 : Inv X pins σ H5 s6 := I3.call' (ch := fp) I6.os I6.base I6.hok I6.bare fun b hb => ⟨(fpOk b hb).1.2.2.2.1, (fpOk b hb).1.2.1, (fpOk b hb).1.2.2.2.2.1, (fpOk b hb).1.2.2.2.2.2⟩
      have nC : H5 s3.heap.objs.size = none := by
        have z : H5 ce.locals = none := I6.free
        rwa [here] at z
      obtain ⟨m, ns, _⟩ := I6.loc
      have ns : s6.heap.Ns ce.locals m := ns
      rw [here] at ns
      obtain ⟨f0, f1, f2, f3, f4, f5⟩ := I3.fpOk (Nat.le_refl _) nC
      exact ⟨m, ns, fun h'' sb => ⟨.ref D, H5, I7.turned (t' := s6.toks) (fun b o hb e => (sb.2 b hb).trans e) f0 f1 f3 f4 f5, rfl, qq⟩⟩
    · refine thnF (T.item (X.blk s3 (upd H2 D (dN X.prog X.w D [])) scope ce fp) rfl rfl rfl hc i [] s5 _ H5 (fun _ _ => False) I5 (still I5 nn5) t5 go) fun r s6 ⟨u, hr, w6⟩ => ?_
      subst hr
      refine thnF w6 fun _ s7 ⟨x, H7, I7, r7, y7, t7, nn7⟩ => ?_
      have pinned := I7.pinned (still I7 nn7) (T.obj _ _ t7)
      refine thnF (pg.run _ s7 _ H7 x u _ pinned r7 (step x H7 y7)) fun _ s8 ⟨σ8, H8, I8, own8, q8⟩ => ?_
      refine thnF (pt.run _ s8 σ8 H8 _ I8 q8) fun b s9 ⟨H9, I9, q9⟩ => ?_
      have again : ∀ {s' : Shared} {H' : Hp}, Inv (X.blk s3 (upd H2 D (dN X.prog X.w D [])) scope ce fp) ([] ++ pinsAt fp s7.heap) σ8 H' s' → N H' → ∃ m, m < n ∧ ∃ i H', Inv (X.blk s3 (upd H2 D (dN X.prog X.w D [])) scope ce fp) [] (wipe σ (own.map (·.2))) H' s' ∧ tn i s'.heap ∧ (∀ b ∈ fp, H' b = none) ∧ W i m H' := by
        intro s' H' I' nx
        obtain ⟨m', lt, w'⟩ := hN' H' nx
        have same : ∀ b ∈ fp, ∀ o, s7.heap.get? b = some o → s'.heap.get? b = some o ∧ H' b = none := fun b hb o e => by
          obtain ⟨z1, z2, _⟩ := I'.pin (b, o) (List.mem_append_right _ (List.mem_append_right _ (mem_pinsAt hb e)))
          exact ⟨z1, z2⟩
        refine ⟨m', lt, i + 1, H', (I'.unpinned (pins := [])).weak (by rw [← own8, wipe_length]) (fun j v e => ?_), T.keep _ _ _ t7 fun b hb o e => (same b hb o e).1, fun b hb => ?_, w'⟩
        · rw [← own8] at e
          exact (wipe_some e).1
        · obtain ⟨o, e, _⟩ := T.obj _ _ t7 b hb
          exact (same b hb o e).2
      cases b with
      | false =>
        rw [if_neg Bool.false_ne_true] at q9 ⊢
        exact again I9 q9
      | true =>
        rw [if_pos rfl] at q9 ⊢
        refine thnF (pk.run _ s9 σ8 H9 _ I9 q9) fun z s10 ⟨yk, H10, I10, r10, q10⟩ => ?_
        refine thnF (pv.run _ s10 σ8 H10 _ I10 q10) fun z2 s11 ⟨yv, H11, I11, r11, ks, o, ek, hD, hz, nx⟩ => ?_
        subst ek
        exact dN_put (X := X.blk s3 (upd H2 D (dN X.prog X.w D [])) scope ce fp) I11 hD hz r10 fun s12 I12 => again I12 nx
end
end Tw

namespace Tw
open PySem L2
/-! ### dicts with None among their keys -/
structure DN where
  ks : List (Option Int)
section
variable {K : PySem.W.Frag} {P : Program} {w : World}
/-- no instance: program and world are told where it is used -/
@[reducible] def repDN (K : PySem.W.Frag) (P : Program) (w : World) : Rep K DN := ⟨fun F x v => ∃ a, v = .ref a ∧ F a = some (dN P w a x.ks), fun e ⟨a, h1, h2⟩ => ⟨a, h1, e _ _ h2⟩⟩
variable {β α γ δ : Type} [Rep K α] [Rep K γ] [Rep K δ] {env : List Sl} {f : β → List OV}
def mDcN (mi : M β β (List α)) (e : α → M β β (Option Int)) : M β β DN := bd (mMapO chk mi) fun xs => bd (compM (fun _ => pu true) e xs) fun ks => pu ⟨ks.reverse⟩
theorem es_dcN {wi : TI} {g : TG} {tk tv : TE} {vs : List Nat} {mi : M β β (List α)} {e1 : α → List Sl} {e : α → M β β (Option Int)} (hi : Ei K wi env f mi) (hg : Tg K g (wipeE env vs) e1) (hw : TgW g vs) (he : ∀ x, Es K tk (e1 x) f (e x)) (hv : ∀ x, Es K tv (e1 x) f (pu true)) :
    @Es β K DN (repDN K P w) (tDcN P w wi g tYes tk tv vs) env f (mDcN mi e) := by
  letI : Rep K DN := repDN K P w
  intro as σ F H b S zs b' hm Q q
  obtain ⟨xs, b1, e1', hm⟩ := bd_some hm
  obtain ⟨xs', b1', e2, e3⟩ := bd_some e1'
  obtain ⟨e4, rfl⟩ := ov_some e3
  obtain ⟨rfl, hz⟩ := chk_some e4
  obtain ⟨ks, b9, e9, hm⟩ := bd_some hm
  obtain ⟨rfl, rfl⟩ := pu_some hm
  refine hi as σ F H b S xs' b1 e2 _ fun J F1 H1 n1 o1 it D hD => ?_
  have hDF : F1 D = none := n1.fh.none hD
  have hDas : D ∉ as := o1.ne hD
  let W : Nat → Nat → Hp → Prop := fun i n H' => n = xs'.length - i ∧ i ≤ xs'.length ∧ ∃ (b2 : β) (F' : Hp) (acc rest : List (Option Int)), Nx (D :: as) F1 (upd H1 D (dN P w D [])) F' H' ∧ F' D = none ∧ H' D = some (dN P w D acc.reverse) ∧ acc.length ≤ i ∧ OsOk as (f b2) F' H' ∧ compM (fun _ => pu true) e (xs'.drop i) b2 = some (rest, b9) ∧ ks = acc ++ rest
  have n0 : Nx [] F1 H1 F1 (upd H1 D (dN P w D [])) := Nx.newO n1.fh hD
  refine ⟨W, ⟨_, rfl, Nat.zero_le _, b1, F1, [], ks, .refl n0.fh, hDF, upd_same, Nat.zero_le _, o1.step n0, e9, rfl⟩, ?_⟩
  rintro i n H2 ⟨rfl, hin, b2, F2, acc, rest, n2, hF2, hH2, hal, os2, hm2, hzs⟩
  obtain ⟨t1, t2⟩ := it i F2 H2 n2.ff n2.fh
  have envW : EnvOk as (wipeE env vs) (L2.wipe σ vs) F2 := ((S.env.mono n1.ff).mono n2.ff).wipe vs
  by_cases hlt : i < xs'.length
  · refine .inr ?_
    obtain ⟨g1, g2⟩ := t1 xs'[i] (List.getElem?_eq_getElem hlt)
    rw [List.drop_eq_getElem_cons hlt] at hm2
    refine ⟨g1, fun H' => ∃ m', m' < xs'.length - i ∧ W (i + 1) m' H', fun _ h => h, fun v H' y => ?_⟩
    obtain ⟨F', n4, r4⟩ := g2 v H' y
    refine hw _ _ _ _ (wipe_sub fun _ h => h) (hg as _ F' H' xs'[i] v n4.fh (envW.mono n4.ff) r4 _ fun σ' ok => ?_)
    have hH' : H' D = some (dN P w D acc.reverse) := n4.hh _ _ hH2
    have hF' : F' D = none := (n4.old D (fun m => nomatch m) (by rw [hH2]; exact nofun)).trans hF2
    dsimp only [tYes]; rw [if_pos rfl]
    have hm3 : bd (e xs'[i]) (fun y => bd (compM (fun _ => pu true) e (List.drop (i + 1) xs')) fun ys => pu (y :: ys)) b2 = some (rest, b9) := hm2
    obtain ⟨y', b4, q4, hm4⟩ := bd_some hm3
    obtain ⟨ys, b5, q5, hm5⟩ := bd_some hm4
    obtain ⟨rfl, rfl⟩ := pu_some hm5
    refine he xs'[i] as σ' F' H' b2 ⟨n4.fh, os2.step n4, ok⟩ y' b4 q4 _ fun u F6 H6 n6 o6 r6 => ?_
    have hH6 : H6 D = some (dN P w D acc.reverse) := n6.keep _ _ hDas hH'
    have hF6 : F6 D = none := (n6.old D hDas (by rw [hH']; exact nofun)).trans hF'
    refine hv xs'[i] as σ' F6 H6 b4 ⟨n6.fh, o6, ok.mono n6.ff⟩ true b4 rfl _ fun u' F7 H7 n7 o7 r7 => ?_
    have hH7 : H7 D = some (dN P w D acc.reverse) := n7.keep _ _ hDas hH6
    have hF7 : F7 D = none := (n7.old D hDas (by rw [hH6]; exact nofun)).trans hF6
    have n8 : Nx (D :: as) F7 H7 F7 (upd H7 D (dN P w D (y' :: acc.reverse))) := Nx.mut n7.fh List.mem_cons_self hF7
    have ur : u = vO y' := by
      cases y' with
      | none => exact r6
      | some j => exact r6
    refine ⟨acc.reverse, y', ur, hH7, ?_, _, (by omega : xs'.length - (i + 1) < xs'.length - i), rfl, hlt, b4, F7, acc ++ [y'], ys, ((n2.trans n4.nil).trans ((n6.trans n7).sub fun x hx => List.mem_cons_of_mem D hx)).trans n8, hF7, ?_, by rw [List.length_append, List.length_singleton]; omega, o7.mut hDas, q5, by rw [hzs]; simp⟩
    · rw [List.length_reverse]
      have hs := sizeLine_eq
      omega
    · rw [upd_same, List.reverse_append]
      rfl
  · have ei : i = xs'.length := by omega
    subst ei
    rw [List.drop_length] at hm2
    obtain ⟨rfl, rfl⟩ := pu_some hm2
    rw [List.append_nil] at hzs
    subst hzs
    refine .inl ⟨t2 rfl, ?_⟩
    have n3 : Nx as F1 H1 (upd F2 D (dN P w D ks.reverse)) H2 := frz_new hD n2 hF2 hH2
    exact q _ _ _ (n1.trans n3) (os2.frz hDas hF2) ⟨D, rfl, upd_same⟩
theorem o2_inN : @Op2 K Int DN Bool _ (repDN K P w) _ (rInN P w) (fun x d => some (decide (some x ∈ d.ks))) := fun F H x y z v u ex e r1 r2 Q q => by
  cases e
  obtain ⟨a, rfl, h⟩ := r2
  exact ⟨a, y.ks, some x, r1, rfl, ex _ _ h, q _ F H (.refl ex) rfl⟩
/-! ### [e for a in .. for b in ..] -/
def comp2M {α1 : Type} (mi1 : α → M β β (List α1)) (e : α → α1 → M β β γ) : List α → M β β (List γ)
  | [] => pu []
  | x :: xs => bd (mi1 x) fun ys => bd (compM (fun _ => pu true) (e x) ys) fun zs => bd (comp2M mi1 e xs) fun rest => pu (zs ++ rest)
def mLc2 {α1 : Type} (mi : M β β (List α)) (mi1 : α → M β β (List α1)) (e : α → α1 → M β β γ) : M β β (List γ) := bd (bd mi fun xs => comp2M mi1 e xs) fun xs => ov (chk xs)
theorem es_lc2 {α1 : Type} [Rep K α1] {wi wi1 : TI} {g g1 : TG} {te : TE} {vs vs1 : List Nat} {mi : M β β (List α)} {e1 : α → List Sl} {mi1 : α → M β β (List α1)} {e2 : α → α1 → List Sl} {e : α → α1 → M β β γ} (hi : Ei K wi env f mi) (hg : Tg K g (wipeE env vs) e1) (hw : TgW g vs)
    (hi1 : ∀ x, Ei K wi1 (e1 x) f (mi1 x)) (hg1 : ∀ x, Tg K g1 (wipeE (e1 x) vs1) (e2 x)) (hw1 : TgW g1 vs1) (he : ∀ x y, Es K te (e2 x y) f (e x y)) :
    Es K (tLc2 wi g tYes wi1 g1 tYes te vs vs1) env f (mLc2 mi mi1 e) := by
  intro as σ F H b S zs b' hm Q q
  obtain ⟨zs', b0, e0, hm⟩ := bd_some hm
  obtain ⟨e4, rfl⟩ := ov_some hm
  obtain ⟨rfl, hz⟩ := chk_some e4
  obtain ⟨xs, b1, e2', hm⟩ := bd_some e0
  refine hi as σ F H b S xs b1 e2' _ fun J F1 H1 n1 o1 it D hD => ?_
  have hDF : F1 D = none := n1.fh.none hD
  have hDas : D ∉ as := o1.ne hD
  let W : Nat → Nat → Hp → Prop := fun i n H' => n = xs.length - i ∧ i ≤ xs.length ∧ ∃ (b2 : β) (F' : Hp) (acc : List γ) (accv : List V) (rest : List γ), Nx (D :: as) F1 (upd H1 D (.lst [])) F' H' ∧ F' D = none ∧ H' D = some (.lst accv) ∧ RpAll (Rep.rp K F') acc accv ∧ OsOk as (f b2) F' H' ∧ comp2M mi1 e (xs.drop i) b2 = some (rest, b') ∧ zs' = acc ++ rest
  have n0 : Nx [] F1 H1 F1 (upd H1 D (.lst [])) := Nx.newO n1.fh hD
  refine ⟨W, ⟨_, rfl, Nat.zero_le _, b1, F1, [], [], zs', .refl n0.fh, hDF, upd_same, trivial, o1.step n0, hm, rfl⟩, ?_⟩
  rintro i n H2 ⟨rfl, hin, b2, F2, acc, accv, rest, n2, hF2, hH2, hacc, os2, hm2, hzs⟩
  obtain ⟨t1, t2⟩ := it i F2 H2 n2.ff n2.fh
  have envW : EnvOk as (wipeE env vs) (L2.wipe σ vs) F2 := ((S.env.mono n1.ff).mono n2.ff).wipe vs
  by_cases hlt : i < xs.length
  · refine .inr ?_
    obtain ⟨g1', g2⟩ := t1 xs[i] (List.getElem?_eq_getElem hlt)
    rw [List.drop_eq_getElem_cons hlt] at hm2
    refine ⟨g1', fun H' => ∃ m', m' < xs.length - i ∧ W (i + 1) m' H', fun _ h => h, fun v H' y => ?_⟩
    obtain ⟨F', n4, r4⟩ := g2 v H' y
    refine hw _ _ _ _ (wipe_sub fun _ h => h) (hg as _ F' H' xs[i] v n4.fh (envW.mono n4.ff) r4 _ fun σ' ok => ?_)
    have hH' : H' D = some (.lst accv) := n4.hh _ _ hH2
    have hF' : F' D = none := (n4.old D (fun m => nomatch m) (by rw [hH2]; exact nofun)).trans hF2
    dsimp only [tYes]; rw [if_pos rfl]
    obtain ⟨ys, b3, q3, hm3⟩ := bd_some hm2
    obtain ⟨ws, b4, q4, hm4⟩ := bd_some hm3
    obtain ⟨rest', b5, q5, hm5⟩ := bd_some hm4
    obtain ⟨rfl, rfl⟩ := pu_some hm5
    refine hi1 xs[i] as σ' F' H' b2 ⟨n4.fh, os2.step n4, ok⟩ ys b3 q3 _ fun J1 F3 H3 n5 o3 it1 => ?_
    have hH3 : H3 D = some (.lst accv) := n5.keep _ _ hDas hH'
    have hF3 : F3 D = none := (n5.old D hDas (by rw [hH']; exact nofun)).trans hF'
    have n23 := (n2.trans n4.nil).trans (n5.sub fun x hx => List.mem_cons_of_mem D hx)
    let W1 : Nat → Nat → Hp → Prop := fun j k H' => k = ys.length - j ∧ j ≤ ys.length ∧ ∃ (b6 : β) (F6 : Hp) (acc6 : List γ) (accv6 : List V) (ws6 : List γ), Nx (D :: as) F3 H3 F6 H' ∧ F6 D = none ∧ H' D = some (.lst accv6) ∧ RpAll (Rep.rp K F6) acc6 accv6 ∧ OsOk as (f b6) F6 H' ∧ compM (fun _ => pu true) (e xs[i]) (ys.drop j) b6 = some (ws6, b4) ∧ zs' = acc6 ++ (ws6 ++ rest')
    refine ⟨W1, ⟨_, rfl, Nat.zero_le _, b3, F3, acc, accv, ws, .refl n5.fh, hF3, hH3, hacc.imp fun _ _ r => Rep.mono (n4.ff.trans n5.ff) r, o3, q4, hzs⟩, ?_⟩
    rintro j k H6 ⟨rfl, hjn, b6, F6, acc6, accv6, ws6, n6, hF6, hH6, hacc6, os6, hm6, hz6⟩
    obtain ⟨s1, s2⟩ := it1 j F6 H6 n6.ff n6.fh
    have env6 : EnvOk as (wipeE (e1 xs[i]) vs1) (L2.wipe σ' vs1) F6 := ((ok.mono n5.ff).mono n6.ff).wipe vs1
    by_cases hj : j < ys.length
    · refine .inr ?_
      obtain ⟨u1, u2⟩ := s1 ys[j] (List.getElem?_eq_getElem hj)
      rw [List.drop_eq_getElem_cons hj] at hm6
      refine ⟨u1, fun H' => ∃ k', k' < ys.length - j ∧ W1 (j + 1) k' H', fun _ h => h, fun v' H'' y' => ?_⟩
      obtain ⟨F7, n7, r7⟩ := u2 v' H'' y'
      refine hw1 _ _ _ _ (wipe_sub fun _ h => h) (hg1 xs[i] as _ F7 H'' ys[j] v' n7.fh (env6.mono n7.ff) r7 _ fun σ'' ok'' => ?_)
      have hH7 : H'' D = some (.lst accv6) := n7.hh _ _ hH6
      have hF7 : F7 D = none := (n7.old D (fun m => nomatch m) (by rw [hH6]; exact nofun)).trans hF6
      dsimp only [tYes]; rw [if_pos rfl]
      have hm7 : bd (e xs[i] ys[j]) (fun y => bd (compM (fun _ => pu true) (e xs[i]) (List.drop (j + 1) ys)) fun ys => pu (y :: ys)) b6 = some (ws6, b4) := hm6
      obtain ⟨w1, b8, q8, hm8⟩ := bd_some hm7
      obtain ⟨ws8, b9, q9, hm9⟩ := bd_some hm8
      obtain ⟨rfl, rfl⟩ := pu_some hm9
      refine he xs[i] ys[j] as σ'' F7 H'' b6 ⟨n7.fh, os6.step n7, ok''⟩ w1 b8 q8 _ fun u F8 H8 n8 o8 r8 => ?_
      have hH8 : H8 D = some (.lst accv6) := n8.keep _ _ hDas hH7
      have hF8 : F8 D = none := (n8.old D hDas (by rw [hH7]; exact nofun)).trans hF7
      have n9 : Nx (D :: as) F8 H8 F8 (upd H8 D (.lst (accv6 ++ [u]))) := Nx.mut n8.fh List.mem_cons_self hF8
      refine ⟨accv6, hH8, ?_, _, (by omega : ys.length - (j + 1) < ys.length - j), rfl, hj, b8, F8, acc6 ++ [w1], accv6 ++ [u], ws8, ((n6.trans n7.nil).trans (n8.sub fun x hx => List.mem_cons_of_mem D hx)).trans n9, hF8, upd_same, (hacc6.imp fun _ _ r => Rep.mono (n7.ff.trans n8.ff) r).app ⟨r8, trivial⟩, o8.mut hDas, q9, by rw [hz6]; simp⟩
      rw [← hacc6.length]
      have : acc6.length < zs'.length := by rw [hz6]; simp
      omega
    · have ej : j = ys.length := by omega
      subst ej
      rw [List.drop_length] at hm6
      obtain ⟨rfl, rfl⟩ := pu_some hm6
      refine .inl ⟨s2 rfl, _, (by omega : xs.length - (i + 1) < xs.length - i), rfl, hlt, b6, F6, acc6, accv6, rest', n23.trans n6, hF6, hH6, hacc6, os6, q5, by rw [hz6]; simp⟩
  · have ei : i = xs.length := by omega
    subst ei
    rw [List.drop_length] at hm2
    obtain ⟨rfl, rfl⟩ := pu_some hm2
    rw [List.append_nil] at hzs
    subst hzs
    refine .inl ⟨t2 rfl, ?_⟩
    have n3 : Nx as F1 H1 (upd F2 D (.lst accv)) H2 := frz_new hD n2 hF2 hH2
    exact q _ _ _ (n1.trans n3) (os2.frz hDas hF2) ⟨D, accv, rfl, upd_same, hacc.imp fun _ _ => Rep.mono (.new hF2)⟩
end
end Tw

namespace Tw
open PySem L2
/-! ### tuples of one kind of item; asked by `in` -/
structure Tp (α : Type) where
  xs : List α
section
variable {K : PySem.W.Frag}
variable {β α γ δ : Type} [Rep K α] [Rep K γ] [Rep K δ] {env : List Sl} {f : β → List OV}
instance : Rep K (Tp α) := ⟨fun F x v => ∃ p vs, v = .ref p ∧ SqT K F p vs ∧ RpAll (Rep.rp K F) x.xs vs, fun e ⟨p, vs, h1, h2, h3⟩ => ⟨p, vs, h1, e.sqT h2, h3.imp fun _ _ => Rep.mono e⟩⟩
theorem es_tpl {ta : TA} {ma : M β β (List α)} (ha : El K ta env f ma) : Es K (tTup ta) env f (mMap Tp.mk (mMapO chk ma)) := by
  intro as σ F H b S z b' hm Q q
  obtain ⟨y, b0, hm1, hm2⟩ := bd_some hm
  obtain ⟨rfl, rfl⟩ := pu_some hm2
  obtain ⟨x, b1, e1, hm3⟩ := bd_some hm1
  obtain ⟨e2, rfl⟩ := ov_some hm3
  obtain ⟨rfl, hz⟩ := chk_some e2
  refine ha as σ F H b S x _ e1 _ fun vs F1 H1 n1 o1 r1 => ⟨by rw [← r1.length]; exact hz, fun p hp => ?_⟩
  have n2 := Nx.new (o := .tup vs) n1.fh hp
  exact q _ _ _ (n1.trans n2.nil) (o1.step n2) ⟨p, vs, rfl, .of upd_same, r1.imp fun _ _ => Rep.mono n2.ff⟩
theorem RpAll.ofV {α : Type} [Rep K α] [ScV α] [Sc K α] {F : Hp} : ∀ {xs : List α} {vs : List V}, RpAll (Rep.rp K F) xs vs → vs = xs.map ScV.ofV
  | [], [], _ => rfl
  | x :: xs, v :: vs, h => by
    rw [List.map_cons, Sc.is h.1, RpAll.ofV h.2]
  | [], _ :: _, h => h.elim
  | _ :: _, [], h => h.elim
def inB {α γ : Type} [ScV α] [ScV γ] (x : α) (ys : List γ) : Option Bool := if (flatV (ScV.ofV x) && (ys.map ScV.ofV).all flatV) = true then some (inV (ScV.ofV x) (ys.map ScV.ofV)) else none
def gInT {α γ : Type} [ScV α] [ScV γ] (x : α) (y : Tp γ) : Option Bool := inB x y.xs
def gNotInT {α γ : Type} [ScV α] [ScV γ] (x : α) (y : Tp γ) : Option Bool := (inB x y.xs).map (!·)
def gInL {α γ : Type} [ScV α] [ScV γ] (x : α) (y : List γ) : Option Bool := inB x y
def gNotInL {α γ : Type} [ScV α] [ScV γ] (x : α) (y : List γ) : Option Bool := (inB x y).map (!·)
theorem inB_some {α γ : Type} [ScV α] [ScV γ] {x : α} {ys : List γ} {c : Bool} (h : inB x ys = some c) : flatV (ScV.ofV x) = true ∧ (ys.map ScV.ofV).all flatV = true ∧ c = inV (ScV.ofV x) (ys.map ScV.ofV) := by
  unfold inB at h
  split at h
  · rename_i g
    rw [Bool.and_eq_true] at g
    cases h
    exact ⟨g.1, g.2, rfl⟩
  · cases h
variable [ScV α] [ScV γ] [Sc K α] [Sc K γ]
theorem o2_inT : Op2 K (α := α) (γ := Tp γ) (rIn K false) gInT := fun F H x y z v w ex e r1 r2 Q q => by
  obtain ⟨p, vs, rfl, h2, h3⟩ := r2
  obtain ⟨f1, f2, rfl⟩ := inB_some e
  have ev := RpAll.ofV h3
  have ex' := Sc.is r1
  subst ev ex'
  exact ⟨p, _, rfl, .inr (ex.sqT h2), f1, f2, q _ F H (.refl ex) rfl⟩
theorem o2_notInT : Op2 K (α := α) (γ := Tp γ) (rIn K true) gNotInT := fun F H x y z v w ex e r1 r2 Q q => by
  obtain ⟨p, vs, rfl, h2, h3⟩ := r2
  obtain ⟨c, e', rfl⟩ := Option.map_eq_some_iff.mp e
  obtain ⟨f1, f2, rfl⟩ := inB_some e'
  have ev := RpAll.ofV h3
  have ex' := Sc.is r1
  subst ev ex'
  exact ⟨p, _, rfl, .inr (ex.sqT h2), f1, f2, q _ F H (.refl ex) rfl⟩
theorem o2_inL : Op2 K (α := α) (γ := List γ) (rIn K false) gInL := fun F H x y z v w ex e r1 r2 Q q => by
  obtain ⟨p, vs, rfl, h2, h3⟩ := r2
  obtain ⟨f1, f2, rfl⟩ := inB_some e
  have ev := RpAll.ofV h3
  have ex' := Sc.is r1
  subst ev ex'
  exact ⟨p, _, rfl, .inl (.of (ex _ _ h2)), f1, f2, q _ F H (.refl ex) rfl⟩
theorem o2_notInL : Op2 K (α := α) (γ := List γ) (rIn K true) gNotInL := fun F H x y z v w ex e r1 r2 Q q => by
  obtain ⟨p, vs, rfl, h2, h3⟩ := r2
  obtain ⟨c, e', rfl⟩ := Option.map_eq_some_iff.mp e
  obtain ⟨f1, f2, rfl⟩ := inB_some e'
  have ev := RpAll.ofV h3
  have ex' := Sc.is r1
  subst ev ex'
  exact ⟨p, _, rfl, .inl (.of (ex _ _ h2)), f1, f2, q _ F H (.refl ex) rfl⟩
theorem eqV_tx (x y : Tx) : eqV (.str (tS x)) (.str (tS y)) = decide (x = y) := by
  show (tS x == tS y) = _
  rw [Bool.eq_iff_iff, beq_iff_eq, decide_eq_true_eq]
  exact ⟨tS_inj, fun h => by rw [h]⟩
@[simp] theorem inB_tx (x : Tx) (ys : List Tx) : inB x ys = some (decide (x ∈ ys)) := by
  unfold inB
  have h1 : (flatV (ScV.ofV x) && (ys.map ScV.ofV).all flatV) = true := by
    rw [Bool.and_eq_true]
    refine ⟨rfl, ?_⟩
    rw [List.all_map]
    exact List.all_eq_true.mpr fun _ _ => rfl
  rw [if_pos h1]
  congr 1
  unfold inV
  rw [List.any_map, Bool.eq_iff_iff, List.any_eq_true, decide_eq_true_eq]
  constructor
  · rintro ⟨y, hy, e⟩
    have e' : eqV (.str (tS y)) (.str (tS x)) = true := e
    rw [eqV_tx, decide_eq_true_eq] at e'
    exact e' ▸ hy
  · intro h
    exact ⟨x, h, by show eqV (.str (tS x)) (.str (tS x)) = true; rw [eqV_tx]; simp⟩
@[simp] theorem inB_otx (x : Tx) (ys : List (Option Tx)) : inB x ys = some (decide (some x ∈ ys)) := by
  unfold inB
  have h1 : (flatV (ScV.ofV x) && (ys.map ScV.ofV).all flatV) = true := by
    rw [Bool.and_eq_true]
    refine ⟨rfl, ?_⟩
    rw [List.all_map]
    exact List.all_eq_true.mpr fun o _ => by cases o <;> rfl
  rw [if_pos h1]
  congr 1
  unfold inV
  rw [List.any_map, Bool.eq_iff_iff, List.any_eq_true, decide_eq_true_eq]
  constructor
  · rintro ⟨y, hy, e⟩
    cases y with
    | none => cases (show false = true from e)
    | some y =>
      have e' : eqV (.str (tS y)) (.str (tS x)) = true := e
      rw [eqV_tx, decide_eq_true_eq] at e'
      exact e' ▸ hy
  · intro h
    exact ⟨some x, h, by show eqV (.str (tS x)) (.str (tS x)) = true; rw [eqV_tx]; simp⟩
@[simp] theorem inB_int (x : Int) (ys : List Int) : inB x ys = some (decide (x ∈ ys)) := by
  unfold inB
  have h1 : (flatV (ScV.ofV x) && (ys.map ScV.ofV).all flatV) = true := by
    rw [Bool.and_eq_true]
    refine ⟨rfl, ?_⟩
    rw [List.all_map]
    exact List.all_eq_true.mpr fun _ _ => rfl
  rw [if_pos h1]
  congr 1
  unfold inV
  rw [List.any_map, Bool.eq_iff_iff, List.any_eq_true, decide_eq_true_eq]
  constructor
  · rintro ⟨y, hy, e⟩
    have e' : (y == x) = true := e
    rw [beq_iff_eq] at e'
    exact e' ▸ hy
  · intro h
    exact ⟨x, h, by show (x == x) = true; simp⟩
end
/-! ### one sign in a text -/
section
variable {K : PySem.W.Frag}
def rInC (neg : Bool) : R2 := fun x y H Q => ∃ (c : Nat) (z : Str), x = .str ⟨#[c]⟩ ∧ y = .str z ∧ Q (.bl (if neg then !decide (c ∈ z.cps.toList) else decide (c ∈ z.cps.toList))) H
theorem opInC {X : Cx} : OpR X (compareOp .In) (rInC false) := op_in_sign
theorem opNotInC {X : Cx} : OpR X (compareOp .NotIn) (rInC true) := op_notIn_sign
def gInS (x y : Tx) : Option Bool := match x with | [c] => some (decide (c ∈ y)) | _ => none
def gNotInS (x y : Tx) : Option Bool := match x with | [c] => some (!decide (c ∈ y)) | _ => none
theorem o2_inS : Op2 K (α := Tx) (γ := Tx) (rInC false) gInS := fun F H x y z v w ex e r1 r2 Q q => by
  obtain rfl : v = .str (tS x) := r1
  obtain rfl : w = .str (tS y) := r2
  match x, e with
  | [c], e =>
    cases e
    exact ⟨c, tS y, rfl, rfl, by rw [tS_cps]; exact q _ F H (.refl ex) rfl⟩
theorem o2_notInS : Op2 K (α := Tx) (γ := Tx) (rInC true) gNotInS := fun F H x y z v w ex e r1 r2 Q q => by
  obtain rfl : v = .str (tS x) := r1
  obtain rfl : w = .str (tS y) := r2
  match x, e with
  | [c], e =>
    cases e
    exact ⟨c, tS y, rfl, rfl, by rw [tS_cps]; exact q _ F H (.refl ex) rfl⟩
end
/-! ### list.index of texts, ints -/
section
variable {K : PySem.W.Frag}
theorem idx_no {x u : Tx} : ∀ (ys : List Tx) {m : Nat}, m < ys.idxOf x → ys[m]? = some u → u ≠ x
  | [], m, h, e => by simp at e
  | y :: ys, 0, h, e => by
    have e' : y = u := by simpa using e
    subst e'
    intro z
    subst z
    simp [List.idxOf_cons] at h
  | y :: ys, m + 1, h, e => by
    rw [List.idxOf_cons] at h
    by_cases z : y = x
    · subst z
      simp at h
    · have : (y == x) = false := by simpa using z
      rw [this] at h
      exact idx_no ys (m := m) (by simpa using h) (by simpa using e)
def gIndex (ys : List Tx) (x : Tx × Unit) : Option Int := if x.1 ∈ ys then some (ys.idxOf x.1 : Int) else none
theorem mt2_index : Mt2 K (α := List Tx) (γ := Tx × Unit) (δ := Int) "list" (rIndex K) gIndex := by
  refine ⟨fun F H x v ex r => ?_, fun F H x y z v vs ex e r1 r2 Q q => ?_⟩
  · obtain ⟨p, vs, rfl, h2, h3⟩ := r
    exact .inl ⟨rfl, vs, .of (ex _ _ h2)⟩
  · obtain ⟨p, us, rfl, h2, h3⟩ := r1
    obtain ⟨w, _, rfl, r2, rfl⟩ := r2
    obtain rfl : w = .str (tS y.1) := r2
    unfold gIndex at e
    split at e
    · rename_i hm
      cases e
      have ev := RpAll.ofV h3
      subst ev
      have hlt : x.idxOf y.1 < x.length := List.idxOf_lt_length_iff.mpr hm
      have hflat : (x.map ScV.ofV).all flatV = true := by
        rw [List.all_map]
        exact List.all_eq_true.mpr fun _ _ => rfl
      refine ⟨p, _, _, x.idxOf y.1, .str (tS y.1), rfl, rfl, .of (ex _ _ h2), rfl, hflat, ?_, ?_, fun m z' hl hz => ?_, q _ F H (.refl ex) rfl⟩
      · rw [List.getElem?_map, List.getElem?_eq_getElem hlt, List.getElem_idxOf]
        rfl
      · rw [eqV_tx]; simp
      · rw [List.getElem?_map] at hz
        obtain ⟨u, hu, rfl⟩ := Option.map_eq_some_iff.mp hz
        show eqV (.str (tS u)) (.str (tS y.1)) = false
        rw [eqV_tx, decide_eq_false_iff_not]
        intro hu2
        exact idx_no _ hl hu hu2
    · cases e
end
/-! ### {text: text, ..}[x] -/
structure DT where
  kvs : List (Str × Str)
def DT.at (d : DT) : List (Key × V) := mergeK [] (d.kvs.map fun kv => (.inr kv.1, .str kv.2))
def gDGet (d : DT) (x : Tx) : Option Tx := match valV d.at (.inr (tS x)) with | some (.str z) => some z.cps.toList | _ => none
section
variable {K : PySem.W.Frag} {β : Type} {env : List Sl} {f : β → List OV}
instance : Rep K DT := ⟨fun F x v => ∃ a, v = .ref a ∧ F a = some (.dK x.at), fun e ⟨a, h1, h2⟩ => ⟨a, h1, e _ _ h2⟩⟩
def cTrs (ks : List (Str × Str)) : List (TE × TE) := ks.map fun kv => (tC (.str kv.1), tC (.str kv.2))
theorem tPairs_c {σ : St} {H : Hp} : ∀ {ks : List (Str × Str)} {Q : List (V × V) → Hp → Prop}, Q (ks.map fun kv => (V.str kv.1, V.str kv.2)) H → tPairs (cTrs ks) σ H Q
  | [], Q, h => h
  | kv :: ks, Q, h => tPairs_c (ks := ks) (Q := fun ps H3 => Q ((.str kv.1, .str kv.2) :: ps) H3) h
theorem es_disp {ks : List (Str × Str)} (hl : ks.length ≤ 15) : Es K (tDisp (cTrs ks)) env f (pu (DT.mk ks)) := by
  intro as σ F H b S z b' hm Q q
  obtain ⟨rfl, rfl⟩ := pu_some hm
  intro p hp
  refine tPairs_c ⟨upd_same, ks.map fun kv => (.inr kv.1, .str kv.2), ?_, by rw [List.length_map]; exact hl, ?_⟩
  · rw [List.map_map]; rfl
  · rw [upd_upd]
    have n := Nx.new (o := .dK (DT.mk ks).at) S.ex hp
    exact q _ _ _ n.nil (S.os.step n) ⟨p, rfl, upd_same⟩
theorem es_dget {td ty : TE} {m : M β β DT} {n : M β β Tx} (h : Es K td env f m) (hy : Es K ty env f n) : Es K (tDGet td ty) env f (mOp gDGet m n) := by
  intro as σ F H b S z b' hm Q q
  obtain ⟨d, b1, e1, hm⟩ := bd_some hm
  obtain ⟨x, b2, e2, hm⟩ := bd_some hm
  obtain ⟨e3, rfl⟩ := ov_some hm
  refine h as σ F H b S d b1 e1 _ fun v F1 H1 n1 o1 r1 => ?_
  refine hy as σ F1 H1 b1 (S.step n1 o1) x b' e2 _ fun w F2 H2 n2 o2 r2 => ?_
  obtain ⟨a, rfl, ha⟩ := r1
  obtain rfl : w = .str (tS x) := r2
  unfold gDGet at e3
  split at e3
  · rename_i y hy
    cases e3
    refine ⟨a, .str y, rfl, ?_, q _ _ _ (n1.trans n2) o2 ?_⟩
    · have g := DGet.k (k := .inr (tS x)) (n2.fh _ _ (n2.ff _ _ ha))
      rw [hy] at g
      exact g
    · show V.str y = V.str (tS y.cps.toList)
      rfl
  · cases e3
end
/-! ### gaps: the object that __init__ fills -/
structure Gp where
  l : Option Tx
  r : Option Tx
  ns : List Int
structure GpC (K : PySem.W.Frag) (C : Addr) : Prop where
  cl : Cls K C
  nl : NoAttr K C "left"
  nr : NoAttr K C "right"
  nn : NoAttr K C "numbers"
def gpF (l r n : V) : List (Str × V) := [("left", l), ("right", r), ("numbers", n)]
theorem lkH {k : Str} {v : V} {r : List (Str × V)} : List.lookup k ((k, v) :: r) = some v := by
  have e : (k == k) = true := beq_self_eq_true k
  simp only [List.lookup, e]
theorem lkP {k g : Str} {v : V} {r : List (Str × V)} (h : (k == g) = false) : List.lookup k ((g, v) :: r) = List.lookup k r := by
  simp only [List.lookup, h]
theorem gpF_l {l r n : V} : (gpF l r n).lookup ("left" : Str) = some l := lkH
theorem gpF_r {l r n : V} : (gpF l r n).lookup ("right" : Str) = some r := (lkP (by decide +kernel)).trans lkH
theorem gpF_n {l r n : V} : (gpF l r n).lookup ("numbers" : Str) = some n := (lkP (by decide +kernel)).trans ((lkP (by decide +kernel)).trans lkH)
theorem putHere {f : Str} {v x : V} {r : List (Str × V)} : putF f v ((f, x) :: r) = (f, v) :: r := if_pos rfl
theorem putPast {f g : Str} {v x : V} {r : List (Str × V)} (h : ¬ g = f) : putF f v ((g, x) :: r) = (g, x) :: putF f v r := if_neg h
theorem gp_ne1 : ¬ ("left" : Str) = "right" := by decide +kernel
theorem gp_ne2 : ¬ ("left" : Str) = "numbers" := by decide +kernel
theorem gp_ne3 : ¬ ("right" : Str) = "numbers" := by decide +kernel
def gpF1 (l : V) : List (Str × V) := [("left", l)]
def gpF2 (l r : V) : List (Str × V) := [("left", l), ("right", r)]
theorem gpF_put2 {l r : V} : putF "right" r (gpF1 l) = gpF2 l r := putPast gp_ne1
theorem gpF_put3 {l r n : V} : putF "numbers" n (gpF2 l r) = gpF l r n := (putPast gp_ne2).trans (congrArg _ (putPast gp_ne3))
theorem gpF_new {l r n : V} : putF "numbers" n (putF "right" r (putF "left" l [])) = gpF l r n := by
  show putF "numbers" n (putF "right" r (gpF1 l)) = _
  rw [gpF_put2, gpF_put3]
def spGp (C : Addr) : Sp := fun vs H Q _ => ∃ (p dx : Addr) (l r n : V), vs = [.ref p, l, r, n] ∧ H p = some (.ins C dx []) ∧ Q .non (upd H p (.ins C dx (gpF l r n)))
/-- the reading of __init__ -/
def tGpInit (K : PySem.W.Frag) : TS := tSeq (sFld K (tVar 0) (tVar 1) "left") (tSeq (sFld K (tVar 0) (tVar 2) "right") (sFld K (tVar 0) (tVar 3) "numbers"))
theorem pure_gpInit {K : PySem.W.Frag} {C : Addr} (T : GpC K C) (vs : List V) (H : Hp) (Q : VK) (E : XK) (h : spGp C vs H Q E) : tGpInit K { nx := fun _ H' => Q .non H', rt := Q } (start ["self", "left", "right", "numbers"] vs) H := by
  obtain ⟨p, dx, l, r, n, rfl, hp, k⟩ := h
  refine ⟨_, rfl, _, rfl, p, C, dx, [], rfl, hp, T.cl, T.nl, (by show 0 < 1000; decide), ?_⟩
  refine ⟨_, rfl, _, rfl, p, C, dx, _, rfl, upd_same, T.cl, T.nr, (by show 1 < 1000; decide), ?_⟩
  refine ⟨_, rfl, _, rfl, p, C, dx, _, rfl, upd_same, T.cl, T.nn, (by show (putF "right" r (gpF1 l)).length < 1000; rw [gpF_put2]; show 2 < 1000; decide), ?_⟩
  show Q .non (upd (upd (upd H p _) p _) p (.ins C dx (putF "numbers" n (putF "right" r (putF "left" l [])))))
  rw [upd_upd, upd_upd, gpF_new]
  exact k
section
variable {K : PySem.W.Frag} {β : Type} {env : List Sl} {f : β → List OV}
instance : Rep K Gp := ⟨fun F x v => ∃ a C dx l r n, v = .ref a ∧ F a = some (.ins C dx (gpF l r n)) ∧ GpC K C ∧ Rep.rp K F x.l l ∧ Rep.rp K F x.r r ∧ Rep.rp K F x.ns n,
  fun e ⟨a, C, dx, l, r, n, h1, h2, h3, h4, h5, h6⟩ => ⟨a, C, dx, l, r, n, h1, e _ _ h2, h3, Rep.mono e h4, Rep.mono e h5, Rep.mono e h6⟩⟩
theorem es_gpl {te : TE} {m : M β β Gp} (h : Es K te env f m) : Es K (tFld K te "left") env f (mMap Gp.l m) := by
  intro as σ F H b S z b' hm Q q
  obtain ⟨x, b1, e1, hm⟩ := bd_some hm
  obtain ⟨rfl, rfl⟩ := pu_some hm
  refine h as σ F H b S x _ e1 _ fun v F1 H1 n1 o1 ⟨a, C, dx, l, r, n, h1, h2, h3, h4, h5, h6⟩ => ?_
  exact ⟨a, C, dx, _, l, h1, n1.fh _ _ h2, h3.cl, h3.nl, gpF_l, q _ _ _ n1 o1 h4⟩
theorem es_gpr {te : TE} {m : M β β Gp} (h : Es K te env f m) : Es K (tFld K te "right") env f (mMap Gp.r m) := by
  intro as σ F H b S z b' hm Q q
  obtain ⟨x, b1, e1, hm⟩ := bd_some hm
  obtain ⟨rfl, rfl⟩ := pu_some hm
  refine h as σ F H b S x _ e1 _ fun v F1 H1 n1 o1 ⟨a, C, dx, l, r, n, h1, h2, h3, h4, h5, h6⟩ => ?_
  exact ⟨a, C, dx, _, r, h1, n1.fh _ _ h2, h3.cl, h3.nr, gpF_r, q _ _ _ n1 o1 h5⟩
theorem es_gpn {te : TE} {m : M β β Gp} (h : Es K te env f m) : Es K (tFld K te "numbers") env f (mMap Gp.ns m) := by
  intro as σ F H b S z b' hm Q q
  obtain ⟨x, b1, e1, hm⟩ := bd_some hm
  obtain ⟨rfl, rfl⟩ := pu_some hm
  refine h as σ F H b S x _ e1 _ fun v F1 H1 n1 o1 ⟨a, C, dx, l, r, n, h1, h2, h3, h4, h5, h6⟩ => ?_
  exact ⟨a, C, dx, _, n, h1, n1.fh _ _ h2, h3.cl, h3.nn, gpF_n, q _ _ _ n1 o1 h6⟩
def mkGp (x : Option Tx × Option Tx × List Int × Unit) : Gp := ⟨x.1, x.2.1, x.2.2.1⟩
theorem es_gp {C : Addr} (T : GpC K C) {E : XK} {ta : TA} {ma : M β β (Option Tx × Option Tx × List Int × Unit)} (ha : Ea K ta env f [] ma) : Es K (tMake C (spGp C) [] E ta) env f (mMap mkGp ma) := by
  intro as σ F H b S z b' hm Q q
  obtain ⟨⟨x, y, n, _⟩, b1, e1, hm⟩ := bd_some hm
  obtain ⟨rfl, rfl⟩ := pu_some hm
  refine ha as σ F H b S _ _ e1 _ fun cs vs F1 H1 n1 o1 hl _ r1 => ?_
  have hcs : cs = [] := List.length_eq_zero_iff.mp hl
  subst hcs
  obtain ⟨l, _, rfl, r1, r, _, rfl, r2, n', _, rfl, r3, rfl⟩ := r1
  intro p dx hp hd hne
  refine ⟨p, dx, l, r, n', rfl, upd_same, rfl, ?_⟩
  rw [upd_upd]
  have n2 := Nx.new (o := .own p) n1.fh hd
  have n3 := Nx.new (o := .ins C dx (gpF l r n')) n2.fh (show upd H1 dx (.own p) p = none by rw [upd_ne (Ne.symm hne)]; exact hp)
  have n4 := n2.trans n3
  exact q _ _ _ (n1.trans n4.nil) (o1.step n4) ⟨p, C, dx, l, r, n', rfl, upd_same, T, Rep.mono n4.ff r1, Rep.mono n4.ff r2, Rep.mono n4.ff r3⟩
end
end Tw

namespace Tw
open PySem L2
/-! ### blocks whose last owned list is given away and made anew -/
def Gr (as : List Addr) (H : Hp) (as' : List Addr) : Prop := ∀ a ∈ as', a ∈ as ∨ H a = none
theorem Gr.refl {as : List Addr} {H : Hp} : Gr as H as := fun _ h => .inl h
theorem Nx.gr {as as' : List Addr} {F H F1 H1 F2 H2 : Hp} (a : Nx as F H F1 H1) (g : Gr as H as') (b : Nx as' F1 H1 F2 H2) : Nx as F H F2 H2 :=
  ⟨a.ff.trans b.ff, b.fh, fun x o n h => b.keep x o (fun m => (g x m).elim n fun z => by rw [z] at h; cases h) (a.keep x o n h),
    fun x n h => (b.old x (fun m => (g x m).elim n h) (a.there x h)).trans (a.old x n h), fun x h => b.there x (a.there x h)⟩
theorem Gr.trans {as as' as2 : List Addr} {F H F1 H1 : Hp} (n : Nx as F H F1 H1) (g : Gr as H as') (g2 : Gr as' H1 as2) : Gr as H as2 := fun a m => (g2 a m).elim (fun m => g a m) fun z => by
  by_cases h : H a = none
  · exact .inr h
  · exact absurd z (n.there a h)
section
variable {K : PySem.W.Frag}
def XPost (j : Nat) {γ β' : Type} (as : List Addr) (f' : β' → List OV) (eN : γ → List Sl) (F H : Hp) (D : Ends) (g : γ) (b' : β') : Prop :=
  ∀ as' σ' F' H', Nx as F H F' H' → as'.take j = as.take j → Gr as H as' → Stt as' (eN g) (f' b') σ' F' H' → D.nx σ' H'
def Sx (K : PySem.W.Frag) (j : Nat) {β β' γ : Type} (ts : TS) (env : List Sl) (f : β → List OV) (f' : β' → List OV) (m : M β β' γ) (eN : γ → List Sl) : Prop :=
  ∀ (as : List Addr) (σ : St) (F H : Hp) (b : β), Stt as env (f b) σ F H → ∀ (g : γ) (b' : β'), m b = some (g, b') → ∀ D : Ends, XPost j as f' eN F H D g b' → ts D σ H
theorem XPost.step {j : Nat} {γ β' : Type} {as : List Addr} {f' : β' → List OV} {eN : γ → List Sl} {F H F1 H1 : Hp} {D : Ends} {g : γ} {b' : β'} (q : XPost j as f' eN F H D g b') (n : Nx as F H F1 H1) : XPost j as f' eN F1 H1 D g b' :=
  fun as' σ' F' H' n' e g' S => q as' σ' F' H' (n.trans n') e (Gr.trans n .refl g') S
variable {j : Nat} {β β2 α γ δ : Type} [Rep K α] [Rep K δ] {env : List Sl} {f : β → List OV} {f2 : β2 → List OV} {eN : γ → List Sl}
theorem sx_end {g : γ} (h : EnvLe env (eN g)) : Sx K j tNext env f f (pu g) eN := by
  intro as σ F H b S o b' hm D q
  obtain ⟨rfl, rfl⟩ := pu_some hm
  exact q as σ F H (.refl S.ex) rfl .refl (S.le h)
theorem sx_if {c : TT} {t u : TS} {mc : M β β Bool} {ma mb : M β β2 γ} (hc : Et c env f mc) (ha : Sx K j t env f f2 ma eN) (hb : Sx K j u env f f2 mb eN) : Sx K j (tIfS c t u) env f f2 (mIf mc ma mb) eN := by
  intro as σ F H b S o b' hm D q
  obtain ⟨x, b1, e1, hm⟩ := bd_some hm
  refine hc as σ F H b S x b1 e1 _ fun F1 H1 n1 o1 => ?_
  cases x with
  | true =>
    rw [if_pos rfl] at hm ⊢
    exact ha as σ F1 H1 b1 (S.step n1 o1) o b' hm D (q.step n1)
  | false =>
    rw [if_neg Bool.false_ne_true] at hm ⊢
    exact hb as σ F1 H1 b1 (S.step n1 o1) o b' hm D (q.step n1)
theorem sx_asg {te : TE} {g : TG} {tr : TS} {ma : M β β α} {e' : α → List Sl} {mr : α → M β β2 γ} (ha : Es K te env f ma) (hg : Tg K g env e') (hr : ∀ x, Sx K j tr (e' x) f f2 (mr x) eN) :
    Sx K j (tSeq (tAsg te g) tr) env f f2 (bd ma mr) eN := by
  intro as σ F H b S o b' hm D q
  obtain ⟨x, b1, e1, hm⟩ := bd_some hm
  refine ha as σ F H b S x b1 e1 _ fun v F1 H1 n1 o1 r1 => ?_
  refine hg as σ F1 H1 x v n1.fh (S.env.mono n1.ff) r1 _ fun σ' ok => ?_
  exact hr x as σ' F1 H1 b1 ⟨n1.fh, o1, ok⟩ o b' hm D (q.step n1)
theorem sx_app {i k : Nat} {te : TE} {tr : TS} {ma : M β β α} {get : β → List α} {put : β → List α → β} {mr : M β β2 γ} (hi : env[i]? = some (.own k)) (hg : ∀ b, (f b)[k]? = some (ovL K (get b))) (hp : ∀ b l, f (put b l) = (f b).set k (ovL K l))
    (ha : Es K te env f ma) (hr : Sx K j tr env f f2 mr eN) :
    Sx K j (tSeq (tDrop (tBM K "list" rAppend (tVar i) (tCons te tNil))) tr) env f f2 (bd (bd ma (mUpd get put gApp)) fun _ => mr) eN := by
  intro as σ F H b S o b' hm D q
  obtain ⟨_, b2, e2, hm⟩ := bd_some hm
  obtain ⟨x, b1, e1, e2⟩ := bd_some e2
  unfold mUpd at e2
  obtain ⟨l, e3, e4⟩ := Option.map_eq_some_iff.mp e2
  cases e4
  unfold gApp at e3
  split at e3
  · rename_i hlt
    cases e3
    obtain ⟨p, h1, h2, h3, h4, vs0, h5, _⟩ := S.at_ hi (hg b)
    refine ⟨.ref p, h2, .inl ⟨rfl, vs0, .of h5⟩, ?_⟩
    refine ha as σ F H b S x b1 e1 _ fun v F1 H1 n1 o1 r1 => ?_
    have S1 := S.step n1 o1
    obtain ⟨p', h1', h2', h3', h4', vs, h5', h6'⟩ := S1.at_ hi (hg b1)
    rw [h1] at h1'
    cases h1'
    refine ⟨p, vs, v, rfl, rfl, h5', by rw [← h6'.length, sizeLine_eq]; exact hlt, ?_⟩
    have n2 : Nx as F1 H1 F1 (upd H1 p (.lst (vs ++ [v]))) := Nx.mut n1.fh h4' h3'
    have o2 := o1.put (o := .lst (vs ++ [v])) (ow := ovL K (get b1 ++ [x])) h1 ⟨_, upd_same, h6'.app ⟨r1, trivial⟩⟩
    rw [← hp] at o2
    exact hr as σ F1 _ _ ⟨n2.fh, o2, S1.env⟩ o b' hm D ((q.step n1).step n2)
  · cases e3
theorem sx_frz {t : TS} {i k : Nat} {m : List α → M β β2 γ} (hi : env[i]? = some (.own k)) (hk : ∀ b, (f b).length = k) (hno : noOwn k (env.set i .un) = true) (hj : j ≤ k) (hr : ∀ l, Sx K j t (env.set i (Sl.of K l)) f f2 (m l) eN) :
    Sx K j t env (extF K f) f2 (frzM m) eN := by
  intro as σ F H b S o b' hm D q
  have hne : ∀ j, j ≠ i → env[j]? ≠ some (.own k) := fun j hj => by
    have := noOwn_get j hno
    rwa [List.getElem?_set_ne (Ne.symm hj)] at this
  have hlen : as.length = k + 1 := by
    rw [S.os.2.1]
    show (f b.1 ++ [ovL K b.2]).length = _
    rw [List.length_append, hk]
    rfl
  obtain ⟨p, h1, h2', h3, h4, vs, h5, h6⟩ := S.at_ (ow := ovL K b.2) hi (by show (f b.1 ++ [ovL K b.2])[k]? = _; rw [List.getElem?_append_right (by rw [hk]; exact Nat.le_refl _), hk, Nat.sub_self]; rfl)
  -- the others
  have ha : as = as.take k ++ [p] := by
    have hk' : k < as.length := by omega
    have e := List.take_append_drop k as
    rw [List.drop_eq_getElem_cons hk', List.drop_of_length_le (by omega)] at e
    have : as[k] = p := by
      rw [List.getElem?_eq_getElem hk'] at h1
      exact Option.some.inj h1
    rw [this] at e
    exact e.symm
  have hnp : p ∉ as.take k := by
    have nd := S.os.1
    rw [ha, List.nodup_append] at nd
    exact fun m => nd.2.2 p m p (by simp) rfl
  have o1 : OsOk (as.take k) (f b.1) F H := ⟨S.os.1.sublist (List.take_sublist _ _), by rw [List.length_take, hk]; omega, fun j a v g1 g2 => by
    have hj : j < k := by
      have := (List.getElem?_eq_some_iff.mp g2).1
      rw [hk] at this
      exact this
    rw [List.getElem?_take, if_pos hj] at g1
    exact S.os.2.2 j a v g1 (by show (f b.1 ++ [ovL K b.2])[j]? = _; rw [List.getElem?_append_left (by rw [hk]; exact hj)]; exact g2)⟩
  have nF : ∀ a u, upd F p (.lst vs) a = some u → H a = some u := fun a u h => by
    by_cases hh : a = p
    · subst hh
      rw [upd_same] at h
      rw [← h]
      exact h5
    · rw [upd_ne hh] at h
      exact S.ex a u h
  have ev : EnvOk (as.take k) (env.set i (Sl.of K b.2)) σ (upd F p (.lst vs)) := ⟨by rw [List.length_set]; exact S.env.1, fun j s e => by
    by_cases hj : i = j
    · subst hj
      by_cases hl : i < env.length
      · rw [List.getElem?_set_self hl] at e
        cases e
        exact ⟨.ref p, h2', p, vs, rfl, upd_same, h6.imp fun _ _ => Rep.mono (.new h3)⟩
      · rw [List.getElem?_eq_none (by rw [List.length_set]; omega)] at e
        cases e
    · rw [List.getElem?_set_ne hj] at e
      have z := (S.env.2 j s e).mono (F' := upd F p (.lst vs)) (.new h3)
      cases s with
      | un => trivial
      | dat r m => exact z
      | own k' =>
        obtain ⟨a, z1, z2⟩ := z
        have hk' : k' ≠ k := fun z => hne j (Ne.symm hj) (by rw [← z]; exact e)
        have hlt : k' < k := by
          have := (List.getElem?_eq_some_iff.mp z1).1
          omega
        exact ⟨a, by rw [List.getElem?_take, if_pos hlt]; exact z1, z2⟩⟩
  refine hr b.2 (as.take k) σ (upd F p (.lst vs)) H b.1 ⟨nF, o1.frz hnp h3, ev⟩ o b' hm D ?_
  have back : ∀ {F' H'}, Nx (as.take k) (upd F p (.lst vs)) H F' H' → Nx as F H F' H' := fun {F' H'} n => by
    have pas : p ∈ as := List.mem_of_getElem? h1
    have sub : ∀ x, x ∉ as → x ∉ as.take k := fun x h m => h (List.mem_of_mem_take m)
    exact ⟨(Ex.new h3).trans n.ff, n.fh, fun a u h e => n.keep a u (sub a h) e, fun a h e => by
      rw [n.old a (sub a h) e, upd_ne fun z => h (by rw [z]; exact pas)], n.there⟩
  intro as' σ' F' H' n' e' g' S'
  refine q as' σ' F' H' (back n') ?_ (fun a m => (g' a m).imp (fun z => List.mem_of_mem_take z) id) S'
  rw [e', List.take_take, Nat.min_eq_left hj]
theorem sx_new {i k : Nat} {tr : TS} {mr : M (β × List α) β2 γ} (hk : ∀ b, (f b).length = k) (hj : j ≤ k) (hr : Sx K j tr (env.set i (.own k)) (extF K f) f2 mr eN) :
    Sx K j (tSeq (tAsg (tLst tNil) (gName i)) tr) env f f2 (newM mr) eN := by
  intro as σ F H b S o b' hm D q
  refine ⟨Nat.zero_le _, fun p hp => ?_⟩
  have n1 : Nx [] F H F (upd H p (.lst [])) := Nx.newO S.ex hp
  have hpas := S.os.ne hp
  have hl : as.length = k := S.os.2.1.trans (hk b)
  have hF : F p = none := S.ex.none hp
  have o1 : OsOk (as ++ [p]) (f b ++ [ovL K ([] : List α)]) F (upd H p (.lst [])) := by
    have o := S.os.mut (o := .lst []) hpas
    refine ⟨?_, by rw [List.length_append, List.length_append, o.2.1]; rfl, fun j a v h1 h2 => ?_⟩
    · rw [List.nodup_append]
      exact ⟨o.1, by simp, fun x hx y hy => by
        have : y = p := by simpa using hy
        subst this
        exact fun z => hpas (by rw [← z]; exact hx)⟩
    · by_cases hj : j < as.length
      · rw [List.getElem?_append_left hj] at h1
        rw [List.getElem?_append_left (by rw [← S.os.2.1]; exact hj)] at h2
        exact o.2.2 j a v h1 h2
      · rw [List.getElem?_append_right (by omega)] at h1
        rw [List.getElem?_append_right (by rw [← S.os.2.1]; omega)] at h2
        have hj0 : j - as.length = 0 := by
          have := (List.getElem?_eq_some_iff.mp h1).1
          simp at this
          omega
        rw [hj0] at h1
        rw [← S.os.2.1, hj0] at h2
        cases h1
        cases h2
        exact ⟨hF, by rw [upd_same]; exact nofun, [], upd_same, trivial⟩
  have ev := (S.env.own (i := i) (p := p))
  rw [hl] at ev
  refine hr (as ++ [p]) _ F (upd H p (.lst [])) (b, []) ⟨n1.fh, o1, ev⟩ o b' hm D ?_
  have back : ∀ {F' H'}, Nx (as ++ [p]) F (upd H p (.lst [])) F' H' → Nx as F H F' H' := fun {F' H'} n => by
    have ne : ∀ a, H a ≠ none → a ≠ p := fun a h z => h (by rw [z]; exact hp)
    refine ⟨n.ff, n.fh, fun a u h e => ?_, fun a m h => n.old a (fun z => (List.mem_append.mp z).elim m fun z => ne a h (by simpa using z)) (by rw [upd_ne (ne a h)]; exact h), fun a h => n.there a (by rw [upd_ne (ne a h)]; exact h)⟩
    have hne : a ≠ p := ne a (by rw [e]; exact fun z => nomatch z)
    refine n.keep a u (fun m => ?_) (by rw [upd_ne hne]; exact e)
    rcases List.mem_append.mp m with z | z
    · exact h z
    · exact hne (by simpa using z)
  intro as' σ' F' H' n' e' g' S'
  refine q as' σ' F' H' (back n') ?_ (fun a m => ?_) S'
  · rw [e', List.take_append_of_le_length (by rw [hl]; exact hj)]
  · rcases g' a m with z | z
    · rcases List.mem_append.mp z with z | z
      · exact .inl z
      · have : a = p := by simpa using z
        rw [this]
        exact .inr hp
    · by_cases h : a = p
      · rw [h]; exact .inr hp
      · rw [upd_ne h] at z
        exact .inr z
def foldX {β α γ : Type} (body : γ → α → M β β γ) : List α → γ → M β β γ
  | [], c => pu c
  | x :: xs, c => bd (body c x) fun c' => foldX body xs c'
theorem ss_forX {ρ γ2 : Type} [Rep K ρ] {wi : TI} {g : TG} {tb tr : TS} {mi : M β β (List α)} {c0 : γ} {eT : γ → α → List Sl} {body : γ → α → M β β γ} {eN2 : γ2 → List Sl} {kr : γ → M β β2 (Fl γ2 ρ)} (hi : Ei K wi env f mi) (he : EnvLe env (eN c0)) (hg : ∀ c, Tg K g (eN c) (eT c)) (hb : ∀ c x, Sx K j tb (eT c x) f f (body c x) eN)
    (h2 : ∀ b, (f2 b).length ≤ j) (hr : ∀ c, Ss K tr (eN c) f f2 (kr c) eN2) : Ss K (tSeq (tFor wi g tb) tr) env f f2 (bd mi fun xs => bd (foldX body xs c0) kr) eN2 := by
  intro as σ F H b S o b' hm D q
  obtain ⟨xs, b1, e1, hm⟩ := bd_some hm
  obtain ⟨c9, b9, e9, hm⟩ := bd_some hm
  refine hi as σ F H b S xs b1 e1 _ fun J F1 H1 n1 o1 it => ?_
  let W : Nat → Nat → St → Hp → Prop := fun i n σ' H' => n = xs.length - i ∧ i ≤ xs.length ∧ ∃ (c : γ) (b2 : β) (F' : Hp) (as' : List Addr), Nx as F1 H1 F' H' ∧ as'.take j = as.take j ∧ Gr as H1 as' ∧ Stt as' (eN c) (f b2) σ' F' H' ∧ foldX body (xs.drop i) c b2 = some (c9, b9)
  refine ⟨W, ⟨_, rfl, Nat.zero_le _, c0, b1, F1, as, .refl n1.fh, rfl, .refl, (S.step n1 o1).le he, e9⟩, ?_⟩
  rintro i n σ2 H2 ⟨rfl, hin, c, b2, F2, as2, n2, ea, ga, S2, hm2⟩
  obtain ⟨t1, t2⟩ := it i F2 H2 n2.ff n2.fh
  by_cases hlt : i < xs.length
  · refine .inr ?_
    obtain ⟨g1, g2⟩ := t1 xs[i] (List.getElem?_eq_getElem hlt)
    rw [List.drop_eq_getElem_cons hlt] at hm2
    obtain ⟨c3, b3, q3, hm3⟩ := bd_some hm2
    refine ⟨g1, fun σ' H' => ∃ m', m' < xs.length - i ∧ W (i + 1) m' σ' H', fun _ _ h => h, fun v H' y => ?_⟩
    obtain ⟨F', n4, r4⟩ := g2 v H' y
    refine hg c as2 σ2 F' H' xs[i] v n4.fh (S2.env.mono n4.ff) r4 _ fun σ' ok => ?_
    refine hb c xs[i] as2 σ' F' H' b2 ⟨n4.fh, S2.os.step n4, ok⟩ c3 b3 q3 _ ?_
    intro as5 σ5 F5 H5 n5 e5 g5 S5
    have n6 := n2.trans n4.nil
    exact ⟨_, by omega, rfl, hlt, c3, b3, F5, as5, Nx.gr n6 ga n5, e5.trans ea, fun a m => (g5 a m).elim (fun z => ga a z) (fun z => .inr (by
      by_cases h : H1 a = none
      · exact h
      · exact absurd z (n6.there a h))), S5, hm3⟩
  · have ei : i = xs.length := by omega
    subst ei
    rw [List.drop_length] at hm2
    obtain ⟨rfl, rfl⟩ := pu_some hm2
    refine .inl ⟨t2 rfl, ?_⟩
    refine hr c as2 σ2 F2 H2 b2 S2 o b' hm _ ?_
    have tk : ∀ b : β2, as2.take (f2 b).length = as.take (f2 b).length := fun b => by
      have e := congrArg (List.take (f2 b).length) ea
      rwa [List.take_take, List.take_take, Nat.min_eq_left (h2 b)] at e
    have back : ∀ {F' H'}, Nx as2 F2 H2 F' H' → Nx as F H F' H' := fun n => n1.trans (Nx.gr n2 ga n)
    cases o with
    | nx g => exact fun σ' F' H' n' S' => q σ' F' H' (back n') (by rw [← tk]; exact S')
    | bk g => exact fun σ' F' H' n' S' => q σ' F' H' (back n') (by rw [← tk]; exact S')
    | ct g => exact fun σ' F' H' n' S' => q σ' F' H' (back n') (by rw [← tk]; exact S')
    | rt r => exact fun v F' H' n' o' => q v F' H' (back n') (by rw [← tk]; exact o')
end
end Tw

namespace Tw
open PySem L2
/-! ### the law's gaps: lists [numbers, left, right], within a list, that are changed after they were made -/
structure Lg where
  ns : List Int
  l : Option Tx
  r : Option Tx
section
variable {K : PySem.W.Frag}
instance : Rep K Lg := ⟨fun F x v => ∃ p n l r, v = .ref p ∧ F p = some (.lst [n, l, r]) ∧ Rep.rp K F x.ns n ∧ Rep.rp K F x.l l ∧ Rep.rp K F x.r r,
  fun e ⟨p, n, l, r, h1, h2, h3, h4, h5⟩ => ⟨p, n, l, r, h1, e _ _ h2, Rep.mono e h3, Rep.mono e h4, Rep.mono e h5⟩⟩
theorem o2_lg0 : Op2 K (α := Lg) (γ := Int) (rIxL K) (fun x i => gK x.ns 0 i) := fun F H x y z v w ex e r1 r2 Q q => by
  obtain ⟨p, n, l, r, rfl, h2, h3, h4, h5⟩ := r1
  simp only [gK] at e
  split at e
  · rename_i hy
    subst hy
    cases e
    exact ⟨p, [n, l, r], 0, n, rfl, r2, .of (ex _ _ h2), rfl, q _ F H (.refl ex) h3⟩
  · cases e
theorem o2_lg1 : Op2 K (α := Lg) (γ := Int) (rIxL K) (fun x i => gK x.l 1 i) := fun F H x y z v w ex e r1 r2 Q q => by
  obtain ⟨p, n, l, r, rfl, h2, h3, h4, h5⟩ := r1
  simp only [gK] at e
  split at e
  · rename_i hy
    subst hy
    cases e
    exact ⟨p, [n, l, r], 1, l, rfl, r2, .of (ex _ _ h2), rfl, q _ F H (.refl ex) h4⟩
  · cases e
theorem o2_lg2 : Op2 K (α := Lg) (γ := Int) (rIxL K) (fun x i => gK x.r 2 i) := fun F H x y z v w ex e r1 r2 Q q => by
  obtain ⟨p, n, l, r, rfl, h2, h3, h4, h5⟩ := r1
  simp only [gK] at e
  split at e
  · rename_i hy
    subst hy
    cases e
    exact ⟨p, [n, l, r], 2, r, rfl, r2, .of (ex _ _ h2), rfl, q _ F H (.refl ex) h5⟩
  · cases e
def GsAll (K : PySem.W.Frag) (F H : Hp) : List Addr → List Lg → Prop
  | [], [] => True
  | p :: ps, g :: gs => (∃ n l r, H p = some (.lst [n, l, r]) ∧ Rep.rp K F g.ns n ∧ Rep.rp K F g.l l ∧ Rep.rp K F g.r r) ∧ GsAll K F H ps gs
  | _, _ => False
theorem GsAll.imp {F H F' H' : Hp} (e : Ex F F') : ∀ {ps : List Addr} {gs : List Lg}, (∀ p ∈ ps, H' p = H p) → GsAll K F H ps gs → GsAll K F' H' ps gs
  | [], [], _, _ => trivial
  | p :: ps, g :: gs, k, ⟨⟨n, l, r, h1, h2, h3, h4⟩, t⟩ => ⟨⟨n, l, r, by rw [k p List.mem_cons_self]; exact h1, Rep.mono e h2, Rep.mono e h3, Rep.mono e h4⟩, GsAll.imp e (fun q m => k q (List.mem_cons_of_mem p m)) t⟩
  | [], _ :: _, _, h => h.elim
  | _ :: _, [], _, h => h.elim
theorem GsAll.snoc {F H : Hp} {p : Addr} {g : Lg} : ∀ {ps : List Addr} {gs : List Lg}, GsAll K F H ps gs → (∃ n l r, H p = some (.lst [n, l, r]) ∧ Rep.rp K F g.ns n ∧ Rep.rp K F g.l l ∧ Rep.rp K F g.r r) → GsAll K F H (ps ++ [p]) (gs ++ [g])
  | [], [], _, h => ⟨h, trivial⟩
  | _ :: _, _ :: _, ⟨a, t⟩, h => ⟨a, GsAll.snoc t h⟩
  | [], _ :: _, h, _ => h.elim
  | _ :: _, [], h, _ => h.elim
theorem GsAll.len {F H : Hp} : ∀ {ps : List Addr} {gs : List Lg}, GsAll K F H ps gs → ps.length = gs.length
  | [], [], _ => rfl
  | _ :: _, _ :: _, ⟨_, t⟩ => congrArg (· + 1) (GsAll.len t)
  | [], _ :: _, h => h.elim
  | _ :: _, [], h => h.elim
/-- a list of gaps at a that nobody else knows; it was made behind H0 -/
def GsOk (K : PySem.W.Frag) (H0 F H : Hp) (a : Addr) (gs : List Lg) : Prop :=
  ∃ ps : List Addr, H a = some (.lst (ps.map V.ref)) ∧ (a :: ps).Nodup ∧ (∀ x ∈ a :: ps, H0 x = none ∧ F x = none) ∧ GsAll K F H ps gs
/-- while it is made: the finished ones, the last one's numbers, its left -/
abbrev GsT := List Lg × List Int × Option Tx
def GsIn (K : PySem.W.Frag) (H0 F H : Hp) (a : Addr) (st : GsT) : Prop :=
  ∃ (ps : List Addr) (p pn : Addr) (lv : V) (vs : List V), H a = some (.lst ((ps ++ [p]).map V.ref)) ∧ (a :: pn :: p :: ps).Nodup ∧ (∀ x ∈ a :: pn :: p :: ps, H0 x = none ∧ F x = none) ∧ GsAll K F H ps st.1 ∧ H p = some (.lst [.ref pn, lv, .non]) ∧ Rep.rp K F st.2.2 lv ∧ H pn = some (.lst vs) ∧ RpAll (Rep.rp K F) st.2.1 vs
theorem Nx.mutF {F0 H0 F H : Hp} {x : Addr} {o : HO} (n : Nx [] F0 H0 F H) (h0 : H0 x = none) (hF : F x = none) : Nx [] F0 H0 F (upd H x o) :=
  ⟨n.ff, fun a u q => by rw [upd_ne (fun z => by rw [z, hF] at q; cases q)]; exact n.fh a u q, fun a u m q => by rw [upd_ne (fun z => by rw [z, h0] at q; cases q)]; exact n.keep a u m q, n.old, fun a q => by
    rw [upd_ne (fun z => q (by rw [z]; exact h0))]
    exact n.there a q⟩
/-- what is done beside it leaves it -/
theorem GsIn.step {H0 F H F' H' : Hp} {a : Addr} {st : GsT} (g : GsIn K H0 F H a st) (n : Nx [] F H F' H') : GsIn K H0 F' H' a st := by
  obtain ⟨ps, p, pn, lv, vs, h1, h2, h3, h4, h5, h6, h7, h8⟩ := g
  have there : ∀ x ∈ ps, ∃ o, H x = some o := by
    intro x hx
    clear h1 h2 h3 h5
    generalize st.1 = gs at h4
    induction ps generalizing gs with
    | nil => cases hx
    | cons q qs ih =>
      cases gs with
      | nil => exact h4.elim
      | cons g gs =>
        rcases List.mem_cons.mp hx with rfl | hx
        · exact ⟨_, h4.1.choose_spec.choose_spec.choose_spec.1⟩
        · exact ih hx gs h4.2
  refine ⟨ps, p, pn, lv, vs, n.hh _ _ h1, h2, fun x hx => ⟨(h3 x hx).1, ?_⟩, h4.imp n.ff fun q hq => ?_, n.hh _ _ h5, Rep.mono n.ff h6, n.hh _ _ h7, h8.imp fun _ _ => Rep.mono n.ff⟩
  · rw [n.old x (fun m => nomatch m) ?_]
    · exact (h3 x hx).2
    · rcases List.mem_cons.mp hx with rfl | hx
      · rw [h1]; exact nofun
      · rcases List.mem_cons.mp hx with rfl | hx
        · rw [h7]; exact nofun
        · rcases List.mem_cons.mp hx with rfl | hx
          · rw [h5]; exact nofun
          · obtain ⟨o, e⟩ := there x hx
            rw [e]; exact nofun
  · obtain ⟨o, e⟩ := there q hq
    rw [e, n.hh _ _ e]
theorem atI_last {α : Type} {xs : List α} {v : α} : atI (xs ++ [v]) (-1) = some v := by
  unfold atI ixN
  rw [if_neg (by decide), if_pos (by rw [List.length_append, List.length_singleton]; omega)]
  show (xs ++ [v])[_]? = _
  rw [List.length_append, List.length_singleton]
  have : (-1 + ((xs.length + 1 : Nat) : Int)).toNat = xs.length := by omega
  rw [this]
  simp
def gsM (t : Int → M Unit Unit Bool) (kk : Int → M Unit Unit Tx) : List Int → GsT → M Unit Unit GsT
  | [], c => pu c
  | x :: xs, c => bd (t x) fun b => if b = true then (if c.2.1.length < line then gsM t kk xs (c.1, c.2.1 ++ [x], c.2.2) else fun _ => none)
    else bd (kk x) fun k => bd (kk x) fun k2 => (if c.1.length + 1 < line then gsM t kk xs (c.1 ++ [⟨c.2.1, c.2.2, some k⟩], [], some k2) else fun _ => none)
def mGaps (mk : M Unit Unit (List Tx)) (mr : List Tx → M Unit Unit (List Int)) (mt : List Tx → Int → M Unit Unit Bool) (mkk : List Tx → Int → M Unit Unit Tx) : M Unit Unit (List Lg) :=
  bd mk fun ks => bd (mr ks) fun xs => bd (gsM (mt ks) (mkk ks) xs ([], [], none)) fun st => pu (st.1 ++ [⟨st.2.1, st.2.2, none⟩])
def tLast (iG : Nat) (K : PySem.W.Frag) : TE := tOp (rIxL K) (tVar iG) (tC (.int (-1)))
def tGapsBody (K : PySem.W.Frag) (iG iX : Nat) (tc : TT) (tkk : TE) (tneg : TE) : TS :=
  tSeq (tIfS tc (tSeq (tDrop (tBM K "list" rAppend (tOp (rIxL K) (tOp (rIxL K) (tVar iG) tneg) (tC (.int 0))) (tCons (tVar iX) tNil))) tNext)
    (tSeq (tAsg tkk (gSub (tOp (rIxL K) (tVar iG) tneg) (tC (.int 2)) rSetL)) (tSeq (tDrop (tBM K "list" rAppend (tVar iG) (tCons (tLst (tCons (tLst tNil) (tCons tkk (tCons (tC .non) tNil)))) tNil))) tNext))) tNext
theorem Nx.frzF {F0 H0 F H : Hp} {x : Addr} {o : HO} (n : Nx [] F0 H0 F H) (h0 : H0 x = none) (hF : F x = none) (hH : H x = some o) : Nx [] F0 H0 (upd F x o) H :=
  ⟨n.ff.trans (.new hF), fun a u q => by
    by_cases z : a = x
    · subst z
      rw [upd_same] at q
      rw [← q]
      exact hH
    · rw [upd_ne z] at q
      exact n.fh a u q, n.keep, fun a m q => by
    rw [upd_ne (fun z => q (by rw [z]; exact h0))]
    exact n.old a m q, n.there⟩
theorem GsAll.there {F H : Hp} {x : Addr} : ∀ {ps : List Addr} {gs : List Lg}, GsAll K F H ps gs → x ∈ ps → ∃ o, H x = some o
  | q :: qs, g :: gs, h, hx => by
    rcases List.mem_cons.mp hx with rfl | hx
    · exact ⟨_, h.1.choose_spec.choose_spec.choose_spec.1⟩
    · exact GsAll.there h.2 hx
  | [], [], _, h => nomatch h
  | [], _ :: _, h, _ => h.elim
theorem GsIn.there {F H : Hp} {a : Addr} {ps : List Addr} {p pn : Addr} {c : HO} {d e : HO} {gs : List Lg} (h1 : H a = some c) (h5 : H p = some d) (h7 : H pn = some e) (h4 : GsAll K F H ps gs) : ∀ x ∈ a :: pn :: p :: ps, ∃ o, H x = some o := fun x hx => by
  rcases List.mem_cons.mp hx with rfl | hx
  · exact ⟨_, h1⟩
  · rcases List.mem_cons.mp hx with rfl | hx
    · exact ⟨_, h7⟩
    · rcases List.mem_cons.mp hx with rfl | hx
      · exact ⟨_, h5⟩
      · exact h4.there hx
theorem set_un {env : List Sl} {i : Nat} (h : env[i]? = some .un) : env.set i .un = env := by
  apply List.ext_getElem?
  intro j
  by_cases hj : i = j
  · subst hj
    rw [h, List.getElem?_set_self (List.getElem?_eq_some_iff.mp h).1]
  · rw [List.getElem?_set_ne hj]
theorem run_gaps {env0 : List Sl} {iK iG iX : Nat} {tk tkk : TE} {wi : TI} {tc : TT} {mk : M Unit Unit (List Tx)} {mr : List Tx → M Unit Unit (List Int)} {mt : List Tx → Int → M Unit Unit Bool} {mkk : List Tx → Int → M Unit Unit Tx}
    (hk : Es K tk env0 f0 mk) (hr : ∀ ks, Ei K wi (env0.set iK (Sl.of K ks)) f0 (mr ks)) (ht : ∀ ks (x : Int), Et tc ((env0.set iK (Sl.of K ks)).set iX (Sl.of K x)) f0 (mt ks x)) (hkk : ∀ ks (x : Int), Es K tkk ((env0.set iK (Sl.of K ks)).set iX (Sl.of K x)) f0 (mkk ks x))
    (uG : env0[iG]? = some .un) (uX : env0[iX]? = some .un) (n1 : iX ≠ iG) (n2 : iK ≠ iG) (n3 : iK ≠ iX)
    {σ : St} {F H : Hp} {gs : List Lg} {D : Ends} (S : Stt [] env0 [] σ F H) (hm : mGaps mk mr mt mkk () = some (gs, ())) (q : ∀ a F' H', Nx [] F H F' H' → GsOk K H F' H' a gs → D.rt (.ref a) H') :
    tSeq (tAsg tk (gName iK)) (tSeq (tAsg (tLst (tCons (tLst (tCons (tLst tNil) (tCons (tC .non) (tCons (tC .non) tNil)))) tNil)) (gName iG))
      (tSeq (tFor wi (gName iX) (tGapsBody K iG iX tc tkk (tUn (rU fun i => .int (-i)) (tC (.int 1))))) (tSeq (tRet (tVar iG)) tNext))) D σ H := by
  obtain ⟨ks, ⟨⟩, e1, hm⟩ := bd_some hm
  obtain ⟨xs, ⟨⟩, e2, hm⟩ := bd_some hm
  obtain ⟨st, ⟨⟩, e3, hm⟩ := bd_some hm
  obtain ⟨rfl, _⟩ := pu_some hm
  refine hk [] σ F H () S ks () e1 _ fun v F1 H1 m1 o1 r1 => ?_
  refine ⟨Nat.zero_le _, fun pn hpn => ⟨by show 3 ≤ sizeLine; rw [sizeLine_eq]; decide, fun p hp => ⟨by show 1 ≤ sizeLine; rw [sizeLine_eq]; decide, fun a ha => ?_⟩⟩⟩
  generalize hH2 : upd H1 pn (.lst []) = H2 at hp ha ⊢
  generalize hH3 : upd H2 p (.lst [.ref pn, .non, .non]) = H3 at ha ⊢
  generalize hH4 : upd H3 a (.lst [.ref p]) = H4
  have x2 : Nx [] F1 H1 F1 H2 := hH2 ▸ Nx.newO m1.fh hpn
  have x3 : Nx [] F1 H2 F1 H3 := hH3 ▸ Nx.newO x2.fh hp
  have x4 : Nx [] F1 H3 F1 H4 := hH4 ▸ Nx.newO x3.fh ha
  have xx := (x2.trans x3).trans x4
  have e2pn : H2 pn = some (.lst []) := by rw [← hH2, upd_same]
  have e3pn := x3.hh _ _ e2pn
  have e3p : H3 p = some (.lst [.ref pn, .non, .non]) := by rw [← hH3, upd_same]
  have e4p := x4.hh _ _ e3p
  have e4a : H4 a = some (.lst [.ref p]) := by rw [← hH4, upd_same]
  have d1 : a ≠ pn := fun z => by rw [z, e3pn] at ha; cases ha
  have d2 : a ≠ p := fun z => by rw [z, e3p] at ha; cases ha
  have d3 : pn ≠ p := fun z => by rw [← z, e2pn] at hp; cases hp
  have nul : ∀ {H9 : Hp} {x : Addr}, Nx [] F1 H1 F1 H9 → H9 x = none → H1 x = none := fun {H9 x} n z => by
    by_cases h : H1 x = none
    · exact h
    · exact absurd z (n.there x h)
  have nul0 : ∀ {x : Addr}, H1 x = none → H x = none := fun {x} z => by
    by_cases h : H x = none
    · exact h
    · exact absurd z (m1.there x h)
  have a1 := nul (x2.trans x3) ha
  have p1 := nul x2 hp
  have G4 : GsIn K H1 F1 H4 a ([], [], none) := ⟨[], p, pn, .non, [], e4a, by simp [d1, d2, d3], fun x hx => by
    have : x = a ∨ x = pn ∨ x = p := by simpa using hx
    rcases this with rfl | rfl | rfl
    · exact ⟨a1, m1.fh.none a1⟩
    · exact ⟨hpn, m1.fh.none hpn⟩
    · exact ⟨p1, m1.fh.none p1⟩, trivial, e4p, rfl, x4.hh _ _ e3pn, trivial⟩
  have lenX : iX < env0.length := (List.getElem?_eq_some_iff.mp uX).1
  have lenG : iG < env0.length := (List.getElem?_eq_some_iff.mp uG).1
  have uG1 : (env0.set iK (Sl.of K ks))[iG]? = some .un := by rw [List.getElem?_set_ne n2]; exact uG
  have uX1 : (env0.set iK (Sl.of K ks))[iX]? = some .un := by rw [List.getElem?_set_ne n3]; exact uX
  have ev1 : EnvOk [] (env0.set iK (Sl.of K ks)) ((σ.set iK (some v)).set iG (some (.ref a))) F1 := by
    have z := ((S.env.mono m1.ff).set (i := iK) (s := Sl.of K ks) (v := v) fun _ => ⟨v, rfl, r1⟩).setAny (i := iG) (x := some (.ref a))
    rwa [set_un uG1] at z
  have sG : ((σ.set iK (some v)).set iG (some (.ref a)))[iG]? = some (some (.ref a)) := List.getElem?_set_self (by rw [List.length_set, S.env.1]; exact lenG)
  change tFor wi (gName iX) (tGapsBody K iG iX tc tkk (tUn (rU fun i => .int (-i)) (tC (.int 1)))) { D with nx := tSeq (tRet (tVar iG)) tNext D } ((σ.set iK (some v)).set iG (some (.ref a))) H4
  generalize ((σ.set iK (some v)).set iG (some (V.ref a))) = σ1 at ev1 sG ⊢
  refine hr ks [] σ1 F1 H4 () ⟨xx.fh, .nil, ev1⟩ xs () e2 _ fun J F5 H5 n5 o5 it => ?_
  have y5 := xx.trans n5
  let W : Nat → Nat → St → Hp → Prop := fun i n σ' H' => n = xs.length - i ∧ i ≤ xs.length ∧ ∃ (F' : Hp) (c : GsT), Ex F5 F' ∧ Nx [] F1 H1 F' H' ∧ GsIn K H1 F' H' a c ∧ EnvOk [] (env0.set iK (Sl.of K ks)) σ' F' ∧ σ'[iG]? = some (some (.ref a)) ∧ gsM (mt ks) (mkk ks) (xs.drop i) c () = some (st, ())
  refine ⟨W, ⟨_, rfl, Nat.zero_le _, F5, _, .refl _, y5, G4.step n5, ev1.mono n5.ff, sG, e3⟩, ?_⟩
  rintro i n σ2 H6 ⟨rfl, hin, F6, c, z6, y6, G6, ev6, sG6, g6⟩
  obtain ⟨t1, t2⟩ := it i F6 H6 z6 y6.fh
  by_cases hlt : i < xs.length
  · refine .inr ?_
    obtain ⟨u1, u2⟩ := t1 xs[i] (List.getElem?_eq_getElem hlt)
    rw [List.drop_eq_getElem_cons hlt] at g6
    obtain ⟨b, ⟨⟩, eb, g6⟩ := bd_some g6
    refine ⟨u1, fun σ' H' => ∃ m', m' < xs.length - i ∧ W (i + 1) m' σ' H', fun _ _ h => h, fun xv H7 yy => ?_⟩
    obtain ⟨F7, n7, r7⟩ := u2 xv H7 yy
    have ev7 := ((ev6.mono n7.ff).set (i := iX) (s := Sl.of K xs[i]) (v := xv) fun _ => ⟨xv, rfl, r7⟩)
    have ev7' := (ev6.mono n7.ff).setAny (i := iX) (x := some xv)
    rw [set_un uX1] at ev7'
    have sG7 : (σ2.set iX (some xv))[iG]? = some (some (.ref a)) := by rw [List.getElem?_set_ne n1]; exact sG6
    have sX7 : (σ2.set iX (some xv))[iX]? = some (some xv) := List.getElem?_set_self (by
      have := ev6.1
      rw [List.length_set] at this
      omega)
    show tGapsBody K iG iX tc tkk _ _ (σ2.set iX (some xv)) H7
    generalize σ2.set iX (some xv) = σ7 at ev7 ev7' sG7 sX7
    have G7 := G6.step n7
    have y7 := y6.trans n7
    have z7 := z6.trans n7.ff
    refine ht ks xs[i] [] σ7 F7 H7 () ⟨n7.fh, .nil, ev7⟩ b () eb _ fun F8 H8 n8 o8 => ?_
    have G8 := G7.step n8
    have y8 := y7.trans n8
    have z8 := z7.trans n8.ff
    have ev8 := ev7'.mono n8.ff
    have evx8 := ev7.mono n8.ff
    cases b with
    | true =>
      rw [if_pos rfl] at g6 ⊢
      split at g6
      · rename_i hln
        obtain ⟨ps, p, pn, lv, vs, h1, h2, h3, h4, h5, h6, h7, h8⟩ := G8
        rw [List.map_append] at h1
        refine ⟨.ref a, sG7, 1, rfl, a, _, -1, .ref p, rfl, rfl, .of h1, atI_last, p, [.ref pn, lv, .non], 0, .ref pn, rfl, rfl, .of h5, rfl, .inl ⟨rfl, vs, .of h7⟩, xv, sX7, pn, vs, xv, rfl, rfl, h7, ?_, ?_⟩
        · rw [← h8.length, sizeLine_eq]; exact hln
        · have npn := h3 pn (by simp)
          have q1 : pn ∉ p :: ps := (List.nodup_cons.mp (List.nodup_cons.mp h2).2).1
          have q2 : a ≠ pn := fun z => (List.nodup_cons.mp h2).1 (by rw [z]; exact List.mem_cons_self)
          have ne : ∀ {x}, x ≠ pn → upd H8 pn (.lst (vs ++ [xv])) x = H8 x := fun h => upd_ne h
          exact ⟨_, (by omega : xs.length - (i + 1) < xs.length - i), rfl, hlt, F8, (c.1, c.2.1 ++ [xs[i]], c.2.2), z8, y8.mutF npn.1 npn.2, ⟨ps, p, pn, lv, vs ++ [xv], by rw [ne q2, List.map_append]; exact h1, h2, h3, h4.imp (.refl _) (fun x hx => ne fun z => q1 (by rw [← z]; exact List.mem_cons_of_mem _ hx)), by rw [ne fun z => q1 (by rw [z]; exact List.mem_cons_self)]; exact h5, h6, upd_same, h8.app ⟨Rep.mono n8.ff r7, trivial⟩⟩, ev8, sG7, g6⟩
      · cases g6
    | false =>
      rw [if_neg Bool.false_ne_true] at g6 ⊢
      obtain ⟨k, ⟨⟩, ek, g6⟩ := bd_some g6
      obtain ⟨k2, ⟨⟩, ek2, g6⟩ := bd_some g6
      split at g6
      · rename_i hln
        refine hkk ks xs[i] [] σ7 F8 H8 () ⟨n8.fh, .nil, evx8⟩ k () ek _ fun u F9 H9 n9 o9 r9 => ?_
        have G9 := G8.step n9
        have y9 := y8.trans n9
        have z9 := z8.trans n9.ff
        obtain ⟨ps, p, pn, lv, vs, h1, h2, h3, h4, h5, h6, h7, h8⟩ := G9
        rw [List.map_append] at h1
        have npn := h3 pn (by simp)
        have npp := h3 p (by simp)
        have npa := h3 a (by simp)
        have th := GsIn.there h1 h5 h7 h4
        have q0 := List.nodup_cons.mp h2
        have q1 := List.nodup_cons.mp q0.2
        have q2 := List.nodup_cons.mp q1.2
        have nap : a ≠ p := fun z => q0.1 (by rw [z]; simp)
        have npnp : pn ≠ p := fun z => q1.1 (by rw [z]; simp)
        refine ⟨.ref a, sG7, 1, rfl, a, _, -1, .ref p, rfl, rfl, .of h1, atI_last, p, [.ref pn, lv, .non], 2, 2, rfl, rfl, h5, rfl, ?_⟩
        generalize hH10 : upd H9 p (.lst [.ref pn, lv, u]) = H10
        have e10 : upd H9 p (.lst ([V.ref pn, lv, .non].set 2 u)) = H10 := hH10
        rw [e10]
        have k10 : ∀ {x}, x ≠ p → H10 x = H9 x := fun h => by rw [← hH10, upd_ne h]
        have y10 : Nx [] F1 H1 F9 H10 := hH10 ▸ y9.mutF npp.1 npp.2
        have a10 : H10 a = some (.lst (ps.map V.ref ++ [.ref p])) := (k10 nap).trans h1
        -- what stands of ours
        have th10 : ∀ x ∈ a :: pn :: p :: ps, ∃ o, H10 x = some o := fun x hx => by
          by_cases z : x = p
          · exact ⟨_, by rw [z, ← hH10, upd_same]⟩
          · rw [k10 z]; exact th x hx
        refine ⟨.ref a, sG7, .inl ⟨rfl, _, .of a10⟩, Nat.zero_le _, fun pn2 hpn2 => ?_⟩
        generalize hH11 : upd H10 pn2 (.lst []) = H11
        have y11 : Nx [] F9 H10 F9 H11 := hH11 ▸ Nx.newO y10.fh hpn2
        refine hkk ks xs[i] [] σ7 F9 H11 () ⟨y11.fh, .nil, evx8.mono n9.ff⟩ k2 () ek2 _ fun u2 F12 H12 n12 o12 r12 => ⟨by show 3 ≤ sizeLine; rw [sizeLine_eq]; decide, fun p2 hp2 => ?_⟩
        have y12 := y11.trans n12
        have e12pn2 : H12 pn2 = some (.lst []) := n12.hh _ _ (by rw [← hH11, upd_same])
        generalize hH13 : upd H12 p2 (.lst [.ref pn2, u2, .non]) = H13
        have y13 : Nx [] F12 H12 F12 H13 := hH13 ▸ Nx.newO y12.fh hp2
        have y1013 := y12.trans y13
        have e13p2 : H13 p2 = some (.lst [.ref pn2, u2, .non]) := by rw [← hH13, upd_same]
        have e13pn2 := y13.hh _ _ e12pn2
        have old13 : ∀ x ∈ a :: pn :: p :: ps, F12 x = none := fun x hx => by
          rw [y1013.old x (fun m => nomatch m) (by obtain ⟨o, e⟩ := th10 x hx; rw [e]; exact nofun)]
          exact (h3 x hx).2
        have ne2 : ∀ x ∈ a :: pn :: p :: ps, x ≠ pn2 ∧ x ≠ p2 := fun x hx => by
          obtain ⟨o, e⟩ := th10 x hx
          refine ⟨fun z => ?_, fun z => ?_⟩
          · rw [z, hpn2] at e; cases e
          · rw [z] at e
            rw [y12.hh _ _ e] at hp2
            cases hp2
        have nn2 : pn2 ≠ p2 := fun z => by rw [z, hp2] at e12pn2; cases e12pn2
        refine ⟨a, _, .ref p2, rfl, rfl, y1013.hh _ _ a10, ?_, ?_⟩
        · have hl := h4.len
          rw [List.length_append, List.length_map, hl, sizeLine_eq]
          exact hln
        · -- all is as it should be
          have y113 : Nx [] F1 H1 F12 H13 := y10.trans y1013
          have h1pn2 : H1 pn2 = none := by
            by_cases h : H1 pn2 = none
            · exact h
            · exact absurd hpn2 (y10.there _ h)
          have h1p2 : H1 p2 = none := by
            by_cases h : H1 p2 = none
            · exact h
            · exact absurd hp2 ((y10.trans y12).there _ h)
          have y14 := (y113.mutF (o := .lst (ps.map V.ref ++ [.ref p] ++ [.ref p2])) npa.1 (old13 a (by simp))).frzF (x := pn) (o := .lst vs) npn.1 (old13 pn (by simp)) (by
            rw [upd_ne fun z => q0.1 (by rw [← z]; simp)]
            exact y1013.hh _ _ ((k10 npnp).trans h7))
          have fz : Ex F12 (upd F12 pn (.lst vs)) := .new (old13 pn (by simp))
          have f912 : Ex F9 F12 := n12.ff
          have kk : ∀ {x}, x ≠ a → upd H13 a (.lst (ps.map V.ref ++ [.ref p] ++ [.ref p2])) x = H13 x := fun h => upd_ne h
          refine ⟨_, (by omega : xs.length - (i + 1) < xs.length - i), rfl, hlt, _, (c.1 ++ [⟨c.2.1, c.2.2, some k⟩], [], some k2), (z9.trans f912).trans fz, y14, ⟨ps ++ [p], p2, pn2, u2, [], ?_, ?_, ?_, ?_, ?_, Rep.mono fz r12, ?_, trivial⟩, (ev8.mono n9.ff).mono (f912.trans fz), sG7, g6⟩
          · rw [upd_same, List.map_append, List.map_append]
            rfl
          · have w1 := ne2 a (by simp)
            have w2 := ne2 p (by simp)
            have w3 : ∀ x ∈ ps, x ≠ pn2 ∧ x ≠ p2 := fun x hx => ne2 x (by simp [hx])
            have w4 : a ∉ ps := fun m => q0.1 (by simp [m])
            have w5 : p ∉ ps := q2.1
            have w6 : ps.Nodup := q2.2
            have w7 : (ps ++ [p]).Nodup := by
              rw [List.nodup_append]
              exact ⟨w6, by simp, fun x hx y hy => by
                have : y = p := by simpa using hy
                rw [this]
                exact fun z => w5 (by rw [← z]; exact hx)⟩
            refine List.nodup_cons.mpr ⟨?_, List.nodup_cons.mpr ⟨?_, List.nodup_cons.mpr ⟨?_, w7⟩⟩⟩
            · intro m
              have m' : a = pn2 ∨ a = p2 ∨ a ∈ ps ∨ a = p := by simpa using m
              rcases m' with z | z | z | z
              · exact w1.1 z
              · exact w1.2 z
              · exact w4 z
              · exact nap z
            · intro m
              have m' : pn2 = p2 ∨ pn2 ∈ ps ∨ pn2 = p := by simpa using m
              rcases m' with z | z | z
              · exact nn2 z
              · exact (w3 _ z).1 rfl
              · exact w2.1 z.symm
            · intro m
              have m' : p2 ∈ ps ∨ p2 = p := by simpa using m
              rcases m' with z | z
              · exact (w3 _ z).2 rfl
              · exact w2.2 z.symm
          · intro x hx
            have hx' : x = a ∨ x = pn2 ∨ x = p2 ∨ x ∈ ps ∨ x = p := by simpa using hx
            have old : x ∈ a :: p :: ps → H1 x = none ∧ upd F12 pn (.lst vs) x = none := fun m => by
              have m' : x ∈ a :: pn :: p :: ps := by
                have : x = a ∨ x = p ∨ x ∈ ps := by simpa using m
                rcases this with z | z | z <;> simp [z]
              refine ⟨(h3 x m').1, ?_⟩
              rw [upd_ne fun z => ?_]
              · exact old13 x m'
              · have : x = a ∨ x = p ∨ x ∈ ps := by simpa using m
                rcases this with y | y | y
                · exact q0.1 (by rw [← y, z]; simp)
                · exact npnp (by rw [← z, y])
                · exact q1.1 (by rw [← z]; simp [y])
            have npn2 := ne2 pn (by simp)
            rcases hx' with z | z | z | z | z
            · exact old (by simp [z])
            · rw [z]
              exact ⟨h1pn2, by rw [upd_ne (Ne.symm npn2.1)]; rw [n12.old pn2 (fun m => nomatch m) (by rw [← hH11, upd_same]; exact nofun)]; exact y10.fh.none hpn2⟩
            · rw [z]
              exact ⟨h1p2, by rw [upd_ne (Ne.symm npn2.2)]; exact n12.fh.none hp2⟩
            · exact old (by simp [z])
            · exact old (by simp [z])
          · refine GsAll.snoc ?_ ?_
            · refine h4.imp (f912.trans fz) fun x hx => ?_
              have xa : x ≠ a := fun z => q0.1 (by rw [← z]; simp [hx])
              have xp : x ≠ p := fun z => q2.1 (by rw [← z]; exact hx)
              obtain ⟨o, e⟩ := h4.there hx
              rw [kk xa, e, y1013.hh _ _ ((k10 xp).trans e)]
            · refine ⟨.ref pn, lv, u, ?_, ?_, Rep.mono (f912.trans fz) h6, Rep.mono (f912.trans fz) r9⟩
              · rw [kk (Ne.symm nap)]
                exact y1013.hh _ _ (by rw [← hH10, upd_same])
              · exact ⟨pn, vs, rfl, upd_same, h8.imp fun _ _ => Rep.mono (f912.trans fz)⟩
          · rw [kk (fun z => (ne2 a (by simp)).2 z.symm)]
            exact e13p2
          · rw [kk (fun z => (ne2 a (by simp)).1 z.symm)]
            exact e13pn2
      · cases g6
  · have ei : i = xs.length := by omega
    subst ei
    rw [List.drop_length] at g6
    obtain ⟨rfl, _⟩ := pu_some g6
    refine .inl ⟨t2 rfl, ?_⟩
    obtain ⟨ps, p, pn, lv, vs, h1, h2, h3, h4, h5, h6, h7, h8⟩ := G6
    have npn := h3 pn (by simp)
    have q0 := List.nodup_cons.mp h2
    have q1 := List.nodup_cons.mp q0.2
    have fz : Ex F6 (upd F6 pn (.lst vs)) := .new npn.2
    refine ⟨.ref a, sG6, q a (upd F6 pn (.lst vs)) H6 (m1.trans (y6.frzF npn.1 npn.2 h7)) ⟨ps ++ [p], h1, ?_, fun x hx => ?_, ?_⟩⟩
    · have q2 := List.nodup_cons.mp q1.2
      refine List.nodup_cons.mpr ⟨fun m => q0.1 ?_, ?_⟩
      · have : a ∈ ps ∨ a = p := by simpa using m
        rcases this with z | z <;> simp [z]
      · rw [List.nodup_append]
        exact ⟨q2.2, by simp, fun x hx y hy => by
          have : y = p := by simpa using hy
          rw [this]
          exact fun z => q2.1 (by rw [← z]; exact hx)⟩
    · have m : x = a ∨ x ∈ ps ∨ x = p := by simpa using hx
      have m' : x ∈ a :: pn :: p :: ps := by
        rcases m with z | z | z <;> simp [z]
      refine ⟨nul0 (h3 x m').1, ?_⟩
      rw [upd_ne fun z => ?_]
      · exact (h3 x m').2
      · rcases m with y | y | y
        · exact q0.1 (by rw [← y, z]; simp)
        · exact q1.1 (by rw [← z]; simp [y])
        · exact q1.1 (by rw [← z, y]; simp)
    · refine GsAll.snoc (h4.imp fz fun _ _ => rfl) ⟨.ref pn, lv, .non, h5, ⟨pn, vs, rfl, upd_same, h8.imp fun _ _ => Rep.mono fz⟩, Rep.mono fz h6, rfl⟩
end
end Tw

namespace Tw
open PySem L2
section
variable {K : PySem.W.Frag}
/-- a def that gives such a list, nobody else knowing it -/
def spG (K : PySem.W.Frag) {α : Type} [RepA K α] (mc : α → M Unit Unit (List Lg)) : Sp := fun vs H Q _ => ∃ (F : Hp) (x : α) (gs : List Lg), Ex F H ∧ RepA.ra K F x vs ∧ mc x () = some (gs, ()) ∧
  ∀ a F' H', Nx [] F H F' H' → GsOk K H F' H' a gs → Q (.ref a) H'
theorem spG_len {α : Type} [RepA K α] {mc : α → M Unit Unit (List Lg)} {n : Nat} (h : RepA.ar K α = n) : ∀ vs H Q E, spG K mc vs H Q E → vs.length = n := fun vs H Q E ⟨F, x, gs, _, a, _⟩ => by
  rw [RepA.len a, h]
theorem run_bodyG {α : Type} [RepA K α] {mc : α → M Unit Unit (List Lg)} {t : TS} {N : List Str} {vs : List V} {H : Hp} {Q : VK} {E : XK} (h : spG K mc vs H Q E) (n a : Nat) (hN : N.length = n) (har : RepA.ar K α = a) (hn : a ≤ n)
    (hs : ∀ (x : α) (σ : St) (F H : Hp) (gs : List Lg) (D : Ends), Stt [] (env0 0 (RepA.env K x) n) [] σ F H → mc x () = some (gs, ()) → (∀ a F' H', Nx [] F H F' H' → GsOk K H F' H' a gs → D.rt (.ref a) H') → t D σ H) : t { nx := fun _ H' => Q .non H', rt := Q } (L2.start N vs) H := by
  subst hN har
  obtain ⟨F, x, gs, ex, ha, e, q⟩ := h
  have ev := env0_ok (N := N) (cs := []) ha (by simpa using hn)
  exact hs x _ F H gs _ ⟨ex, .nil, ev⟩ e q
/-- from now on it stays as it is -/
theorem GsOk.frz {H0 F0 F H : Hp} {a : Addr} {gs : List Lg} (g : GsOk K H0 F H a gs) (n : Nx [] F0 H0 F H) : ∃ F', Nx [] F0 H0 F' H ∧ Rep.rp K F' gs (.ref a) := by
  classical
  obtain ⟨ps, h1, h2, h3, h4⟩ := g
  let F' : Hp := fun x => if x ∈ a :: ps then H x else F x
  have e : Ex F F' := fun x o q => by
    show (if x ∈ a :: ps then H x else F x) = some o
    rw [if_neg fun m => by rw [(h3 x m).2] at q; cases q]
    exact q
  have at_ : ∀ x ∈ a :: ps, F' x = H x := fun x m => if_pos m
  refine ⟨F', ⟨n.ff.trans e, fun x o q => ?_, n.keep, fun x m q => ?_, n.there⟩, a, ps.map V.ref, rfl, (at_ a (by simp)).trans h1, ?_⟩
  · have q' : (if x ∈ a :: ps then H x else F x) = some o := q
    split at q'
    · exact q'
    · exact n.fh x o q'
  · show (if x ∈ a :: ps then H x else F x) = F0 x
    rw [if_neg fun m => q (h3 x m).1]
    exact n.old x m q
  · have at2 : ∀ x ∈ ps, F' x = H x := fun x m => at_ x (by simp [m])
    clear h1 h2 h3 at_
    generalize F' = F' at *
    induction ps generalizing gs with
    | nil =>
      cases gs with
      | nil => trivial
      | cons => exact h4.elim
    | cons p ps ih =>
      cases gs with
      | nil => exact h4.elim
      | cons g gs =>
        obtain ⟨⟨nn, l, r, g1, g2, g3, g4⟩, t⟩ := h4
        exact ⟨⟨p, nn, l, r, rfl, (at2 p (by simp)).trans g1, Rep.mono e g2, Rep.mono e g3, Rep.mono e g4⟩, ih t fun x m => at2 x (by simp [m])⟩
theorem GsAll.get {F H : Hp} {p : Addr} : ∀ {j : Nat} {ps : List Addr} {gs : List Lg} {g : Lg}, GsAll K F H ps gs → gs[j]? = some g → ∃ p n l r, ps[j]? = some p ∧ H p = some (.lst [n, l, r]) ∧ Rep.rp K F g.ns n ∧ Rep.rp K F g.l l ∧ Rep.rp K F g.r r
  | 0, p :: ps, g0 :: gs, g, ⟨⟨n, l, r, h1, h2, h3, h4⟩, t⟩, e => by
    have : g0 = g := by simpa using e
    subst this
    exact ⟨p, n, l, r, rfl, h1, h2, h3, h4⟩
  | j + 1, p :: ps, g0 :: gs, g, ⟨_, t⟩, e => GsAll.get (p := p) (j := j) t (by simpa using e)
  | _, [], [], _, _, e => by simp at e
  | _, [], _ :: _, _, h, _ => h.elim
  | _, _ :: _, [], _, h, _ => h.elim
theorem GsAll.set {F H : Hp} {p : Addr} {g' : Lg} {n l r : V} (hn : Rep.rp K F g'.ns n) (hl : Rep.rp K F g'.l l) (hr : Rep.rp K F g'.r r) : ∀ {j : Nat} {ps : List Addr} {gs : List Lg}, GsAll K F H ps gs → ps.Nodup → ps[j]? = some p → GsAll K F (upd H p (.lst [n, l, r])) ps (gs.set j g')
  | 0, q :: ps, g0 :: gs, ⟨_, t⟩, nd, e => by
    have : q = p := by simpa using e
    subst this
    refine ⟨⟨n, l, r, upd_same, hn, hl, hr⟩, t.imp (.refl _) fun x hx => upd_ne fun z => ?_⟩
    exact (List.nodup_cons.mp nd).1 (by rw [← z]; exact hx)
  | j + 1, q :: ps, g0 :: gs, ⟨⟨n0, l0, r0, h1, h2, h3, h4⟩, t⟩, nd, e => by
    have e' : ps[j]? = some p := by simpa using e
    refine ⟨⟨n0, l0, r0, ?_, h2, h3, h4⟩, GsAll.set hn hl hr t (List.nodup_cons.mp nd).2 e'⟩
    rw [upd_ne fun z => (List.nodup_cons.mp nd).1 (by rw [z]; exact List.mem_of_getElem? e')]
    exact h1
  | _, [], [], _, _, e => by simp at e
  | _, [], _ :: _, h, _, _ => h.elim
  | _, _ :: _, [], h, _, _ => h.elim
variable {β α γ ρ β2 : Type} [RepA K α] [Rep K ρ] {env : List Sl} {f : β → List OV} {f2 : β2 → List OV} {eN : γ → List Sl}
theorem es_callG {mc : α → M Unit Unit (List Lg)} {E : XK} {ta : TA} {ma : M β β α} (ha : Ea K ta env f [] ma) : Es K (tCall (spG K mc) [] E ta) env f (bd ma fun x => zoom (fun _ => ()) (fun b _ => b) (mc x)) := by
  intro as σ F H b S z b' hm Q q
  obtain ⟨x, b1, e1, hm⟩ := bd_some hm
  obtain ⟨e2, rfl⟩ : mc x () = some (z, ()) ∧ b' = b1 := by
    unfold zoom at hm
    obtain ⟨r, e, h⟩ := Option.map_eq_some_iff.mp hm
    cases h
    exact ⟨e, rfl⟩
  refine ha as σ F H b S x b' e1 _ fun cs vs F1 H1 n1 o1 hl _ r1 => ?_
  have hcs : cs = [] := List.length_eq_zero_iff.mp hl
  subst hcs
  refine ⟨F1, x, z, n1.fh, by rw [List.append_nil]; exact r1, e2, fun a F2 H2 n2 g2 => ?_⟩
  obtain ⟨F3, n3, r3⟩ := g2.frz n2
  exact q _ F3 H2 (n1.trans n3.nil) (o1.step n3) r3
def endsG (e : Tx) (gs : List Lg) : Option (List Lg) := gs[0]?.bind fun g => (gs.set 0 ⟨g.ns, some e, g.r⟩)[gs.length - 1]?.map fun g' => (gs.set 0 ⟨g.ns, some e, g.r⟩).set (gs.length - 1) ⟨g'.ns, g'.l, some e⟩
theorem atI_0 {α : Type} {xs : List α} {v : α} (h : xs[0]? = some v) : atI xs 0 = some v := atI_nat (j := 0) h
theorem atI_m1 {α : Type} {xs : List α} {v : α} (h : xs[xs.length - 1]? = some v) : atI xs (-1) = some v := by
  have hl := (List.getElem?_eq_some_iff.mp h).1
  unfold atI ixN
  rw [if_neg (by decide), if_pos (by omega)]
  show xs[_]? = _
  have : (-1 + (xs.length : Int)).toNat = xs.length - 1 := by omega
  rw [this]
  exact h
theorem ss_gaps3 {i : Nat} {s : Str} {e : Tx} (he : s.cps.toList = e) {mc : α → M Unit Unit (List Lg)} {E : XK} {ta : TA} {ma : M β β α} {tr : TS} {mr : List Lg → M β β2 (Fl γ ρ)} (hi : i < env.length) (ha : Ea K ta env f [] ma) (hr : ∀ g : List Lg, Ss K tr (env.set i (Sl.of K g)) f f2 (mr g) eN) :
    Ss K (tSeq (tAsg (tCall (spG K mc) [] E ta) (gName i)) (tSeq (tAsg (tC (.str s)) (gSub (tOp (rIxL K) (tVar i) (tC (.int 0))) (tC (.int 1)) rSetL))
      (tSeq (tAsg (tC (.str s)) (gSub (tOp (rIxL K) (tVar i) (tUn (rU fun i => .int (-i)) (tC (.int 1)))) (tC (.int 2)) rSetL)) tr))) env f f2
      (bd (bd (bd ma fun x => zoom (fun _ => ()) (fun b _ => b) (mc x)) fun g => ov (endsG e g)) mr) eN := by
  intro as σ F H b S o b' hm D q
  obtain ⟨g9, b9, hm1, hm⟩ := bd_some hm
  obtain ⟨gs, b8, hm2, hm1⟩ := bd_some hm1
  obtain ⟨e8, rfl⟩ := ov_some hm1
  obtain ⟨x, b1, e1, hm3⟩ := bd_some hm2
  obtain ⟨e2, rfl⟩ : mc x () = some (gs, ()) ∧ b9 = b1 := by
    unfold zoom at hm3
    obtain ⟨r, e, h⟩ := Option.map_eq_some_iff.mp hm3
    cases h
    exact ⟨e, rfl⟩
  refine ha as σ F H b S x _ e1 _ fun cs vs F1 H1 n1 o1 hl _ r1 => ?_
  have hcs : cs = [] := List.length_eq_zero_iff.mp hl
  subst hcs
  refine ⟨F1, x, gs, n1.fh, by rw [List.append_nil]; exact r1, e2, fun a F2 H2 n2 ⟨ps, h1, h2, h3, h4⟩ => ?_⟩
  have es : Rep.rp K F2 (some e) (.str s) := by
    show V.str s = V.str (tS e)
    rw [← he, tS_of]
  have sA : (σ.set i (some (.ref a)))[i]? = some (some (.ref a)) := List.getElem?_set_self (by have := S.env.1; omega)
  unfold endsG at e8
  obtain ⟨g0, eg0, e8⟩ := Option.bind_eq_some_iff.mp e8
  obtain ⟨g1, eg1, e8⟩ := Option.map_eq_some_iff.mp e8
  have nd := (List.nodup_cons.mp h2)
  obtain ⟨p, n, l, r, hp, hH, hn, hl', hr'⟩ := h4.get (p := a) eg0
  have fp := h3 p (List.mem_cons_of_mem _ (List.mem_of_getElem? hp))
  have hpa : a ≠ p := fun z => nd.1 (by rw [z]; exact List.mem_of_getElem? hp)
  have n3 := n2.mutF (o := .lst [n, .str s, r]) fp.1 fp.2
  have h4' := GsAll.set (g' := ⟨g0.ns, some e, g0.r⟩) hn es hr' h4 nd.2 hp
  have h1' : upd H2 p (.lst [n, .str s, r]) a = some (.lst (ps.map V.ref)) := (upd_ne hpa).trans h1
  generalize hH3 : upd H2 p (.lst [n, .str s, r]) = H3 at n3 h4' h1'
  obtain ⟨p1, n', l', r', hp1, hH1, hn1, hl1, hr1⟩ := h4'.get (p := a) eg1
  have fp1 := h3 p1 (List.mem_cons_of_mem _ (List.mem_of_getElem? hp1))
  have hpa1 : a ≠ p1 := fun z => nd.1 (by rw [z]; exact List.mem_of_getElem? hp1)
  have n4 := n3.mutF (o := .lst [n', l', .str s]) fp1.1 fp1.2
  have h4'' := GsAll.set (g' := ⟨g1.ns, g1.l, some e⟩) hn1 hl1 es h4' nd.2 hp1
  have h1'' : upd H3 p1 (.lst [n', l', .str s]) a = some (.lst (ps.map V.ref)) := (upd_ne hpa1).trans h1'
  have lp : ps.length = gs.length := h4.len
  refine ⟨.ref a, sA, a, _, 0, .ref p, rfl, rfl, .of h1, atI_0 (by rw [List.getElem?_map, hp]; rfl), p, [n, l, r], 1, 1, rfl, rfl, hH, rfl, ?_⟩
  change (tSeq (tAsg (tC (.str s)) (gSub (tOp (rIxL K) (tVar i) (tUn (rU fun i => .int (-i)) (tC (.int 1)))) (tC (.int 2)) rSetL)) tr) D (σ.set i (some (.ref a))) (upd H2 p (.lst [n, .str s, r]))
  rw [hH3]
  refine ⟨.ref a, sA, 1, rfl, a, _, -1, .ref p1, rfl, rfl, .of h1', atI_m1 (by rw [List.length_map, List.getElem?_map, lp, hp1]; rfl), p1, [n', l', r'], 2, 2, rfl, rfl, hH1, rfl, ?_⟩
  change tr D (σ.set i (some (.ref a))) (upd H3 p1 (.lst [n', l', .str s]))
  generalize hH4 : upd H3 p1 (.lst [n', l', .str s]) = H4 at n4 h4'' h1''
  have G : GsOk K H1 F2 H4 a g9 := ⟨ps, h1'', h2, h3, by rw [← e8]; exact h4''⟩
  obtain ⟨F5, n5, r5⟩ := G.frz n4
  have ev := ((S.env.mono n1.ff).mono n5.ff).set (i := i) (s := Sl.of K g9) (v := .ref a) fun _ => ⟨_, rfl, r5⟩
  exact hr g9 as _ F5 H4 _ ⟨n5.fh, o1.step n5, ev⟩ o b' hm D (q.step (n1.trans n5.nil))
end
end Tw

namespace Tw
open PySem L2
section
variable {K : PySem.W.Frag}
/-! ### a list of two things of two kinds -/
structure LP (α γ : Type) where
  a : α
  b : γ
variable {β α γ : Type} [Rep K α] [Rep K γ] {env : List Sl} {f : β → List OV}
instance : Rep K (LP α γ) := ⟨fun F x v => ∃ p u w, v = .ref p ∧ F p = some (.lst [u, w]) ∧ Rep.rp K F x.a u ∧ Rep.rp K F x.b w,
  fun e ⟨p, u, w, h1, h2, h3, h4⟩ => ⟨p, u, w, h1, e _ _ h2, Rep.mono e h3, Rep.mono e h4⟩⟩
def mkLP {α γ : Type} (x : α × γ × Unit) : LP α γ := ⟨x.1, x.2.1⟩
theorem es_lp {ta : TA} {ma : M β β (α × γ × Unit)} (ha : Ea K ta env f [] ma) : Es K (tLst ta) env f (mMap mkLP ma) := by
  intro as σ F H b S z b' hm Q q
  obtain ⟨⟨x, y, _⟩, b1, e1, hm⟩ := bd_some hm
  obtain ⟨rfl, rfl⟩ := pu_some hm
  refine ha as σ F H b S _ _ e1 _ fun cs vs F1 H1 n1 o1 hl _ r1 => ?_
  have hcs : cs = [] := List.length_eq_zero_iff.mp hl
  subst hcs
  obtain ⟨v, _, rfl, r1, w, _, rfl, r2, rfl⟩ := r1
  refine ⟨by show 2 ≤ sizeLine; rw [sizeLine_eq]; decide, fun p hp => ?_⟩
  have n2 := Nx.new (o := .lst [v, w]) n1.fh hp
  exact q _ _ _ (n1.trans n2.nil) (o1.step n2) ⟨p, v, w, rfl, upd_same, Rep.mono n2.ff r1, Rep.mono n2.ff r2⟩
theorem o2_lp0 : Op2 K (α := LP α γ) (γ := Int) (rIxL K) (fun x i => gK x.a 0 i) := fun F H x y z v w ex e r1 r2 Q q => by
  obtain ⟨p, l, r, rfl, h2, h3, h4⟩ := r1
  simp only [gK] at e
  split at e
  · rename_i hy
    subst hy
    cases e
    exact ⟨p, [l, r], 0, l, rfl, r2, .of (ex _ _ h2), rfl, q _ F H (.refl ex) h3⟩
  · cases e
theorem o2_lp1 : Op2 K (α := LP α γ) (γ := Int) (rIxL K) (fun x i => gK x.b 1 i) := fun F H x y z v w ex e r1 r2 Q q => by
  obtain ⟨p, l, r, rfl, h2, h3, h4⟩ := r1
  simp only [gK] at e
  split at e
  · rename_i hy
    subst hy
    cases e
    exact ⟨p, [l, r], 1, r, rfl, r2, .of (ex _ _ h2), rfl, q _ F H (.refl ex) h4⟩
  · cases e
/-! ### isinstance(pair, tuple) -/
theorem tyX_sqT {H : Hp} {p : Addr} {xs : List V} (h : SqT K H p xs) : TyX K H (.ref p) (.type "tuple") := by
  rcases h with h | ⟨o, its, n, h1, h2, _⟩
  · rcases h with h | ⟨od, h⟩
    · exact .base (.tup h)
    · exact .fTuple h
  · exact .kTuple h1 h2
theorem es_isiP {te : TE} {m : M β β (α × γ)} (h : Es K te env f m) : Es K (tCB (rIsi K) (tCons te (tCons (tC (.ty "tuple")) tNil))) env f (mMap (fun _ => true) m) := by
  intro as σ F H b S z b' hm Q q
  obtain ⟨x, b1, e1, hm⟩ := bd_some hm
  obtain ⟨rfl, rfl⟩ := pu_some hm
  refine h as σ F H b S x _ e1 _ fun v F1 H1 n1 o1 r1 => ?_
  obtain ⟨p, u, w, rfl, h2, h3, h4⟩ := r1
  exact ⟨.ref p, .ty "tuple", .type "tuple", .type "tuple", true, rfl, .ty _, tyX_sqT (n1.fh.sqT h2), kit_ty rfl, q _ _ _ n1 o1 rfl⟩
variable {j : Nat} {β2 γ2 : Type} {f2 : β2 → List OV} {eN : γ2 → List Sl}
theorem sx_last {t : TS} {m : M β β2 γ2} (h : Sx K j t env f f2 m eN) : Sx K j (tSeq t tNext) env f f2 m eN := by
  intro as σ F H b S o b' hm D q
  exact h as σ F H b S o b' hm { D with nx := tNext D } q
/-! ### the class of gaps, as it stands at the top -/
structure RawGap (K : PySem.W.Frag) (mg : Str → Option Value) (st : Stmt) : Prop where
  ex : ∃ C f fd, GpC K C ∧ Mk K C f ∧ Fun K "__init__" "Gap.__init__" st f fd ∧ mg "Gap" = some (.ref C) ∧ Binds K fd ["self", "left", "right", "numbers"] []
structure DfGap (P : Program) (w : World) (K : PySem.W.Frag) (mg : Str → Option Value) (base : Heap) : Prop where
  ex : ∃ C f fd, GpC K C ∧ Mk K C f ∧ FnOk P w K mg base CX0 1 f fd ["self", "left", "right", "numbers"] (spGp C) ∧ mg "Gap" = some (.ref C) ∧ Binds K fd ["self", "left", "right", "numbers"] []
theorem rawGap_mk {h : Heap} {mg : Str → Option Value} {st : Stmt} {C f : Addr} {oc : Value} {od an : Option Addr} {osl : Array (Option Value)} {kV doc pm cdv ct : Value} (X : K.In h) (G : h.Ns mainGlobals mg)
    (hb : ∀ (kV doc pm : Value) (an : Option Addr) (cdv ct : Value) (us : List Value), us.length = 4 → bindArgs (PySem.W.fnOf "__init__" "Gap.__init__" (defArgs st) (defBody st) (defScope st) .none kV doc pm an cdv ct) ⟨us, []⟩ = pure ((["self", "left", "right", "numbers"] : List Str).zip us))
    (aC : PySem.W.nsIn K mainGlobals "Gap" = some (some (.ref C)))
    (a1 : PySem.W.findIn K (.ref C) "__init__" = some (some (.ref f))) (i1 : PySem.W.isFn K (.ref f) = true)
    (l : K.lookup f = some ⟨oc, od, .func (PySem.W.fnOf "__init__" "Gap.__init__" (defArgs st) (defBody st) (defScope st) .none kV doc pm an cdv ct), osl⟩) (c : PySem.W.codeIn K cdv "Gap.__init__" = true)
    (pg : PySem.W.plainGet K C Str.empty = true) (hd : PySem.W.hasDictIn K C = true) (po : PySem.W.plainOver K C = true) (sa : PySem.W.findIn K (.ref C) "__setattr__" = some (some (.builtin "object.__setattr__"))) (mk : PySem.W.makesIn K C = true) (kc : PySem.W.keepIn K (.ref C) = true) (k1 : PySem.W.keepIn K (.ref f) = true)
    (nl : PySem.W.findIn K (.ref C) "left" = some none) (nr : PySem.W.findIn K (.ref C) "right" = some none) (nn : PySem.W.findIn K (.ref C) "numbers" = some none) : RawGap K mg st :=
  ⟨C, f, _, ⟨⟨pg, hd, po, sa⟩, nl, nr, nn⟩, ⟨mk, a1, i1, kc⟩, fun_mk l c k1, PySem.W.mg_of X G aC, (fun_mk l c k1).binds hb⟩
end
theorem units1_of {k : Nat} {A : Around} (r : Room (k + 1) A) : A.units + 1 < cLine := by
  have := Room.units1 r
  omega
theorem bt_isinstance : bootBuiltins "isinstance" = some (.builtin "isinstance") := by decide +kernel
theorem bt_tuple : bootBuiltins "tuple" = some (.type "tuple") := by decide +kernel
theorem glob_mk {K : PySem.W.Frag} {h : Heap} {mg : Str → Option Value} {x : Str} {v : V} {u : Value} (X : K.In h) (G : h.Ns mainGlobals mg) (e : PySem.W.nsIn K mainGlobals x = some (some u)) (r : RelV v u) : ∃ u, mg x = some u ∧ RelV v u := ⟨u, PySem.W.mg_of X G e, r⟩
end Tw

namespace Tw
open PySem L2 CwR PySem.Spec PyProof.Rows
/-! ### tests behind which a token is out, where they say yes; str.replace of written texts -/
section
variable {X : Cx}
structure PT1 (X : Cx) (e : Expr) (t : TT) : Prop where
  run : ∀ (whole : Sem Value) (pins : List (Addr × Obj)) (s : Shared) (σ : L2.St) (H : Hp) (Q : Bool → Hp → Prop), Inv X pins σ H s → t σ H Q → wpAny (model X.prog X.w) X.A (isTrue e X.env whole) (fun d s' => (d = true → 1 ≤ s'.toks) ∧ TP X pins σ Q d s') X.xe s
variable {a b : Expr} {ta tb : TE} {tA tB : TT} {pos : Pos} {rest : List Expr} {op : CmpOp} {r : R2} {c : Str} {j : Nat} {p : Pos}
/-- a text is written on the left -/
theorem pt1_cmpL (ho : OpR X (compareOp op) r) (hb : PE X b tb) (hm : behindInMarks op b = false := by with_unfolding_all rfl) : PT1 X (.Compare (.Constant (.str c) j p) [op] [b] pos) (tTest (tOp r (tC (.str c)) tb)) := by
  refine ⟨fun whole pins s σ H Q I h => ?_⟩
  refine wpAny_isTrue_Compare1 (Calls.Constant_str ?_) hm
  have I1 := I.tok (s.toks + 1)
  refine wpAny_mono (wpAny_toks_of (n := 1) (by show 1 ≤ s.toks + 1; omega) (hb.run pins _ σ H _ I1 h)) (fun u s2 q => ?_) fun _ _ z => z.2
  obtain ⟨hk, y, H2, I2, r2, q2⟩ := q
  refine wpAny_mono (wpAny_toks_of (n := 1) hk (ho pins s2 σ H2 (.str c) y (.str c s.toks) u _ I2 ⟨_, rfl⟩ r2 q2)) (fun d s3 q => ?_) fun _ _ z => z.2
  obtain ⟨hk3, z, H3, I3, r3, k, e, q3⟩ := q
  subst e
  cases r3
  exact wpAny_truthy_bool ⟨fun _ => hk3, H3, I3, q3⟩
theorem pw1_and1 (ha : PT1 X a tA) : PT1 X (.BoolOp .And [a] pos) tA := by
  refine ⟨fun wh pins s σ H Q I h => ?_⟩
  refine isTrue_and (thn (ha.run _ pins s σ H Q I h) fun c s1 e => ?_)
  cases c with
  | true => exact isTrue_and_nil e
  | false => exact e
theorem pw1_and (ha : PT X a tA) (hb : PT1 X (.BoolOp .And (b :: rest) pos) tB) : PT1 X (.BoolOp .And (a :: b :: rest) pos) (tAnd tA tB) := by
  refine ⟨fun wh pins s σ H Q I h => ?_⟩
  refine isTrue_and (thn (ha.run pins s σ H _ I h) fun c s1 ⟨H1, I1, q1⟩ => ?_)
  cases c with
  | true => exact hb.run wh pins s1 σ H1 Q I1 q1
  | false => exact ⟨fun z => (by cases z), H1, I1, q1⟩
theorem pe_ifExpT {e1 e2 : Expr} {t1 t2 : TE} (hc : PT1 X a tA) (h1 : PET X e1 t1) (h2 : PE X e2 t2) : PE X (.IfExp a e1 e2 pos) (tIf tA t1 t2) := by
  refine ⟨fun pins s σ H Q I h => ?_⟩
  refine wpAny_IfExp (thn (hc.run _ pins s σ H _ I h) fun d s1 ⟨hk, H1, I1, q1⟩ => ?_)
  cases d with
  | true => exact h1 pins s1 σ H1 Q (hk rfl) I1 q1
  | false => exact h2.run pins s1 σ H1 Q I1 q1
theorem ps_ifT {s1 s2 : List Stmt} {t u : TS} (hc : PT1 X a tA) (h1 : PSsT X s1 t) (h2 : PSs X s2 u) : PS X (.If a s1 s2 pos) (tIfS tA t u) := by
  refine ⟨fun pins s σ H D I h => ?_⟩
  refine wpAny_If (thn (hc.run _ pins s σ H _ I h) fun d s1 ⟨hk, H1, I1, q1⟩ => ?_)
  cases d with
  | true => exact h1 pins s1 σ H1 D (hk rfl) I1 q1
  | false => exact h2.run pins s1 σ H1 D I1 q1
theorem pst_set {i : Nat} {x : Str} {e : Expr} {te : TE} {pos' : Pos} (hN : X.N.Nodup) (hi : X.N[i]? = some x) (hx : Loc X.env.scope x) (he : PET X e te) (hs : swapsWith e (some (.Name x pos')) pos.line X.env = pure false := by rfl) (hf : X.fn x = true ∨ X.env.scope.names.lookup x = some .local := by first | exact .inl rfl | exact .inr rfl | assumption) :
    PST X (.Assign [.Name x pos'] e pos) (tAsg te (gName i)) := by
  intro pins s σ H D h0 I h
  refine wpAny_Assign_Name (thn (he pins s σ H _ h0 I h) fun v s1 ⟨y, H1, I1, r1, q1⟩ => ?_) hs
  exact store_ok I1 hN hi hx r1 (fun s2 I2 => ⟨_, H1, I2, q1⟩) hf
end
section
variable {K : PySem.W.Frag} {β : Type} {env : List Sl} {f : β → List OV}
def gRepl (y z : Str) (x : Tx) : Option Tx := if x.length + (x.length + 1) * z.length ≤ 16777216 then some (Txt.replace (tS x) y z).cps.toList else none
theorem es_repl {y z : Str} {to : TE} {m : M β β Tx} (h : Es K to env f m) : Es K (tReplC to y z) env f (mMapO (gRepl y z) m) := by
  intro as σ F H b S w b' hm Q q
  obtain ⟨x, b1, e1, hm⟩ := bd_some hm
  obtain ⟨e2, rfl⟩ := ov_some hm
  refine h as σ F H b S x _ e1 _ fun v F1 H1 n1 o1 r1 => ?_
  obtain rfl : v = .str (tS x) := r1
  unfold gRepl at e2
  split at e2
  · rename_i hz
    cases e2
    refine ⟨tS x, rfl, by rw [tS_len]; exact hz, q _ F1 H1 n1 o1 ?_⟩
    show V.str _ = V.str (tS _)
    rw [tS_of]
  · cases e2
end
end Tw

namespace Tw
open PySem L2
/-! ### an owned list is asked: its items, its length; its last item is put anew -/
section
variable {K : PySem.W.Frag} {β β2 α γ ρ : Type} [Rep K α] [Rep K ρ] {env : List Sl} {f : β → List OV} {f2 : β2 → List OV} {eN : γ → List Sl}
def mPeek {β α : Type} (get : β → List α) (mi : M β β Int) : M β β α := bd mi fun i => fun b => (atI (get b) i).map fun x => (x, b)
theorem es_peek {i k : Nat} {ti : TE} {mi : M β β Int} {get : β → List α} (hi : env[i]? = some (.own k)) (hg : ∀ b, (f b)[k]? = some (ovL K (get b))) (h : Es K ti env f mi) : Es K (tOp (rIxL K) (tVar i) ti) env f (mPeek get mi) := by
  intro as σ F H b S x b' hm Q q
  obtain ⟨j, b1, e1, hm⟩ := bd_some hm
  obtain ⟨y, e2, e3⟩ := Option.map_eq_some_iff.mp hm
  cases e3
  obtain ⟨p, h1, h2, h3, h4, vs0, h5, _⟩ := S.at_ hi (hg b)
  refine ⟨.ref p, h2, ?_⟩
  refine h as σ F H b S j _ e1 _ fun v F1 H1 n1 o1 r1 => ?_
  have S1 := S.step n1 o1
  obtain ⟨p', h1', h2', h3', h4', vs, h5', h6'⟩ := S1.at_ hi (hg b')
  rw [h1] at h1'
  cases h1'
  obtain rfl : v = .int j := r1
  obtain ⟨u, hu, ru⟩ := h6'.atI e2
  exact ⟨p, vs, j, u, rfl, rfl, .of h5', hu, q _ F1 H1 n1 o1 ru⟩
def gSetLast {α : Type} (l : List α) (x : α) : Option (List α) := if l = [] then none else some (l.set (l.length - 1) x)
theorem RpAll.setAt {r : α → V → Prop} {x : α} {v : V} (h : r x v) : ∀ {xs : List α} {vs : List V} (j : Nat), RpAll r xs vs → RpAll r (xs.set j x) (vs.set j v)
  | [], [], _, _ => trivial
  | _ :: _, _ :: _, 0, ⟨_, t⟩ => ⟨h, t⟩
  | _ :: _, _ :: _, j + 1, ⟨a, t⟩ => ⟨a, RpAll.setAt h j t⟩
  | [], _ :: _, _, h => h.elim
  | _ :: _, [], _, h => h.elim
theorem ss_setlast {i k : Nat} {te : TE} {tr : TS} {ma : M β β α} {get : β → List α} {put : β → List α → β} {mr : M β β2 (Fl γ ρ)} (hi : env[i]? = some (.own k)) (hg : ∀ b, (f b)[k]? = some (ovL K (get b))) (hp : ∀ b l, f (put b l) = (f b).set k (ovL K l))
    (ha : Es K te env f ma) (hr : Ss K tr env f f2 mr eN) :
    Ss K (tSeq (tAsg te (gSub (tVar i) (tUn (rU fun i => .int (-i)) (tC (.int 1))) rSetL)) tr) env f f2 (bd (bd ma (mUpd get put gSetLast)) fun _ => mr) eN := by
  intro as σ F H b S o b' hm D q
  obtain ⟨_, b2, e2, hm⟩ := bd_some hm
  obtain ⟨x, b1, e1, e2⟩ := bd_some e2
  unfold mUpd at e2
  obtain ⟨l, e3, e4⟩ := Option.map_eq_some_iff.mp e2
  cases e4
  unfold gSetLast at e3
  split at e3
  · cases e3
  · rename_i hne
    cases e3
    refine ha as σ F H b S x b1 e1 _ fun v F1 H1 n1 o1 r1 => ?_
    have S1 := S.step n1 o1
    obtain ⟨p, h1, h2, h3, h4, vs, h5, h6⟩ := S1.at_ hi (hg b1)
    have hl := h6.length
    have hpos : 0 < vs.length := by
      rw [← hl]
      exact List.length_pos_iff.mpr hne
    refine ⟨.ref p, h2, 1, rfl, p, vs, -1, vs.length - 1, rfl, rfl, h5, ?_, ?_⟩
    · unfold ixN
      rw [if_neg (by decide), if_pos (by omega)]
      congr 1
      omega
    · have n2 : Nx as F1 H1 F1 (upd H1 p (.lst (vs.set (vs.length - 1) v))) := Nx.mut n1.fh h4 h3
      have o2 := o1.put (o := .lst (vs.set (vs.length - 1) v)) (ow := ovL K ((get b1).set ((get b1).length - 1) x)) h1 ⟨_, upd_same, by rw [← hl]; exact RpAll.setAt r1 _ h6⟩
      rw [← hp] at o2
      exact hr as σ F1 _ _ ⟨n2.fh, o2, S1.env⟩ o b' hm D ((q.step n1).step n2)
theorem es_lenO {i k : Nat} {get : β → List α} (hi : env[i]? = some (.own k)) (hg : ∀ b, (f b)[k]? = some (ovL K (get b))) : Es K (tCB (rLenQ K) (tCons (tVar i) tNil)) env f (fun b => some (((get b).length : Int), b)) := by
  intro as σ F H b S x b' hm Q q
  cases hm
  obtain ⟨p, h1, h2, h3, h4, vs, h5, h6⟩ := S.at_ hi (hg b)
  refine ⟨.ref p, h2, p, vs, rfl, .inl (.of h5), ?_⟩
  refine q _ F H (.refl S.ex) S.os ?_
  show V.int _ = V.int _
  rw [h6.length]
theorem ss_par {δ : Type} [Rep K δ] {i j : Nat} {ta : TA} {tr : TS} {ma : M β β (α × δ × Unit)} {mr : α × δ × Unit → M β β2 (Fl γ ρ)} (ha : Ea K ta env f [] ma) (hr : ∀ x : α × δ × Unit, Ss K tr ((env.set i (Sl.of K x.1)).set j (Sl.of K x.2.1)) f f2 (mr x) eN) :
    Ss K (tSeq (tPar i j ta) tr) env f f2 (bd ma mr) eN := by
  intro as σ F H b S o b' hm D q
  obtain ⟨x, b1, e1, hm⟩ := bd_some hm
  refine ha as σ F H b S x b1 e1 _ fun cs vs F1 H1 n1 o1 hl _ r1 => ?_
  have hcs : cs = [] := List.length_eq_zero_iff.mp hl
  subst hcs
  obtain ⟨v, _, rfl, r1, w, _, rfl, r2, rfl⟩ := r1
  refine ⟨v, w, rfl, ?_⟩
  have ev := ((S.env.mono n1.ff).set (i := i) (s := Sl.of K x.1) (v := v) fun _ => ⟨v, rfl, r1⟩).set (i := j) (s := Sl.of K x.2.1) (v := w) fun _ => ⟨w, rfl, r2⟩
  exact hr x as _ F1 H1 b1 ⟨n1.fh, o1, ev⟩ o b' hm D (q.step n1)
end
theorem pt_truthK {X : Cx} {K : PySem.W.Frag} {a : Expr} {ta : TE} (hK : X.K = K) (ha : PE X a ta) (he : ∀ whole, isTrue a X.env whole = (do let v ← whole; standAt a.pos; holding [v] (truthy v))) :
    PT X a (fun σ H Q => ta σ H fun x H' => ∃ k, TruV K x H' k ∧ Q k H') := by
  subst hK
  exact pt_truth ha he
end Tw

namespace Tw
open PySem L2
section
variable {K : PySem.W.Frag}
/-! ### tidy: runs whose last one's signs grow -/
abbrev TdR := Tx × List Tx
abbrev TdS := Option (List TdR × Tx × List Tx)
def tdGo : List (Tx × Tx) → TdS → Option TdS
  | [], c => some c
  | x :: xs, none => tdGo xs (some ([], x.1, [x.2]))
  | x :: xs, some (d, m, ss) => if m = x.1 then (if ss.length < line then tdGo xs (some (d, m, ss ++ [x.2])) else none) else if d.length + 1 < line then tdGo xs (some (d ++ [(m, ss)], x.1, [x.2])) else none
def tdEnd : TdS → List TdR
  | none => []
  | some (d, m, ss) => d ++ [(m, ss)]
def tdRuns (xs : List (Tx × Tx)) : Option (List TdR) := (tdGo xs none).map tdEnd
def tdLast (K : PySem.W.Frag) (iR : Nat) : TE := tOp (rIxL K) (tVar iR) (tUn (rU fun i => .int (-i)) (tC (.int 1)))
def TdIn (K : PySem.W.Frag) (H0 F H : Hp) (a : Addr) : TdS → Prop
  | none => H a = some (.lst []) ∧ H0 a = none ∧ F a = none
  | some (d, m, ss) => ∃ (vs : List V) (p l : Addr) (ws : List V), H a = some (.lst (vs ++ [.ref p])) ∧ H p = some (.tup [.str (tS m), .ref l]) ∧ H l = some (.lst ws) ∧ (a ≠ p ∧ a ≠ l ∧ p ≠ l) ∧ (∀ x ∈ [a, p, l], H0 x = none ∧ F x = none) ∧ RpAll (Rep.rp K F) d vs ∧ RpAll (Rep.rp K F) ss ws
theorem TdIn.step {H0 F H F' H' : Hp} {a : Addr} {c : TdS} (g : TdIn K H0 F H a c) (n : Nx [] F H F' H') : TdIn K H0 F' H' a c := by
  have old : ∀ {x o}, H x = some o → F x = none → F' x = none := fun {x o} h1 h2 => by
    rw [n.old x (fun m => nomatch m) (by rw [h1]; exact nofun)]
    exact h2
  cases c with
  | none => exact ⟨n.hh _ _ g.1, g.2.1, old g.1 g.2.2⟩
  | some c =>
    obtain ⟨d, m, ss⟩ := c
    obtain ⟨vs, p, l, ws, h1, h2, h3, h4, h5, h6, h7⟩ := g
    refine ⟨vs, p, l, ws, n.hh _ _ h1, n.hh _ _ h2, n.hh _ _ h3, h4, fun x hx => ⟨(h5 x hx).1, ?_⟩, h6.imp fun _ _ => Rep.mono n.ff, h7.imp fun _ _ => Rep.mono n.ff⟩
    have hx' : x = a ∨ x = p ∨ x = l := by simpa using hx
    rcases hx' with rfl | rfl | rfl
    · exact old h1 (h5 _ hx).2
    · exact old h2 (h5 _ hx).2
    · exact old h3 (h5 _ hx).2
variable {β2 γ ρ : Type} [Rep K ρ] {env : List Sl} {f2 : β2 → List OV} {eN : γ → List Sl}
def tTidyTest (K : PySem.W.Frag) (iR iM : Nat) : TT := tAnd (fun σ H Q => tVar iR σ H fun x H' => ∃ k, TruV K x H' k ∧ Q k H') (tTest (tOp rEq (tOp (rIxT K) (tdLast K iR) (tC (.int 0))) (tVar iM)))
def tTidyBody (K : PySem.W.Frag) (iR iM iS : Nat) (tt : TT) : TS :=
  tSeq (tIfS tt (tSeq (tDrop (tBM K "list" rAppend (tOp (rIxT K) (tdLast K iR) (tC (.int 1))) (tCons (tVar iS) tNil))) tNext)
    (tSeq (tDrop (tBM K "list" rAppend (tVar iR) (tCons (tTup (tCons (tVar iM) (tCons (tLst (tCons (tVar iS) tNil)) tNil))) tNil))) tNext)) tNext
theorem V_str_eq_dec {x y : Tx} : V.bl (decide (V.str (tS x) = V.str (tS y))) = V.bl (decide (x = y)) := congrArg V.bl (decide_eq_decide.mpr V_str_eq)
theorem ss_tidy {iR iM iS : Nat} {wi : TI} {tr : TS} {told : List (Tx × Tx)} {mr : List TdR → M Unit β2 (Fl γ ρ)} (hi : Ei K wi env f0 (pu told))
    (uR : env[iR]? = some .un) (uM : env[iM]? = some .un) (uS : env[iS]? = some .un) (n1 : iM ≠ iR) (n2 : iS ≠ iR) (n3 : iM ≠ iS)
    (hr : ∀ rs, Ss K tr (env.set iR (Sl.of K rs)) f0 f2 (mr rs) eN) :
    Ss K (tSeq (tAsg (tLst tNil) (gName iR)) (tSeq (tFor wi (gTup K 2 (gCons (gName iM) (gCons (gName iS) gNil))) (tTidyBody K iR iM iS (tTidyTest K iR iM))) tr)) env f0 f2 (bd (ov (tdRuns told)) mr) eN := by
  intro as σ F H b S o b' hm D q
  have eas : as = [] := List.length_eq_zero_iff.mp S.os.2.1
  subst eas
  obtain ⟨rs, b1, e1, hm⟩ := bd_some hm
  obtain ⟨e1, e2⟩ := ov_some e1
  obtain ⟨cz, ez, e3⟩ := Option.map_eq_some_iff.mp e1
  subst e3
  refine ⟨Nat.zero_le _, fun a ha => ?_⟩
  generalize hH1 : upd H a (.lst []) = H1
  have m1 : Nx [] F H F H1 := hH1 ▸ Nx.newO S.ex ha
  have lenR : iR < env.length := (List.getElem?_eq_some_iff.mp uR).1
  have lenM : iM < env.length := (List.getElem?_eq_some_iff.mp uM).1
  have lenS : iS < env.length := (List.getElem?_eq_some_iff.mp uS).1
  have ev1 : EnvOk [] env (σ.set iR (some (.ref a))) F := by
    have z := S.env.setAny (i := iR) (x := some (.ref a))
    rwa [set_un uR] at z
  have sR : (σ.set iR (some (.ref a)))[iR]? = some (some (.ref a)) := List.getElem?_set_self (by rw [S.env.1]; exact lenR)
  change tFor wi (gTup K 2 (gCons (gName iM) (gCons (gName iS) gNil))) (tTidyBody K iR iM iS (tTidyTest K iR iM)) { D with nx := tr D } (σ.set iR (some (.ref a))) H1
  generalize (σ.set iR (some (V.ref a))) = σ1 at ev1 sR ⊢
  have S1 : Stt [] env (f0 b) σ1 F H1 := ⟨m1.fh, S.os.step m1, ev1⟩
  have G1 : TdIn K H F H1 a none := ⟨by rw [← hH1, upd_same], ha, S.ex.none ha⟩
  refine hi [] σ1 F H1 b S1 told b rfl _ fun J F2 H2 m2 o2 it => ?_
  let W : Nat → Nat → St → Hp → Prop := fun i n σ' H' => n = told.length - i ∧ i ≤ told.length ∧ ∃ (F' : Hp) (c : TdS), Ex F2 F' ∧ Nx [] F H F' H' ∧ TdIn K H F' H' a c ∧ EnvOk [] env σ' F' ∧ σ'[iR]? = some (some (.ref a)) ∧ tdGo (told.drop i) c = some cz
  refine ⟨W, ⟨_, rfl, Nat.zero_le _, F2, none, .refl _, m1.trans m2, G1.step m2, ev1.mono m2.ff, sR, ez⟩, ?_⟩
  rintro i n σ2 H3 ⟨rfl, hin, F3, c, z3, y3, G3, ev3, sR3, g3⟩
  obtain ⟨t1, t2⟩ := it i F3 H3 z3 y3.fh
  by_cases hlt : i < told.length
  · refine .inr ?_
    obtain ⟨u1, u2⟩ := t1 told[i] (List.getElem?_eq_getElem hlt)
    rw [List.drop_eq_getElem_cons hlt] at g3
    refine ⟨u1, fun σ' H' => ∃ m', m' < told.length - i ∧ W (i + 1) m' σ' H', fun _ _ h => h, fun xv H4 yy => ?_⟩
    obtain ⟨F4, n4, r4⟩ := u2 xv H4 yy
    generalize told[i] = x at g3 r4
    obtain ⟨xm, xs⟩ := x
    obtain ⟨px, u, w, rfl, h2, h3, h4⟩ := r4
    have h3 : u = .str (tS xm) := h3
    have h4 : w = .str (tS xs) := h4
    subst h3 h4
    have G4 := G3.step n4
    have y4 := y3.trans n4
    have z4 := z3.trans n4.ff
    have ev4 : EnvOk [] env ((σ2.set iM (some (.str (tS xm)))).set iS (some (.str (tS xs)))) F4 := by
      have e1 := (ev3.mono n4.ff).setAny (i := iM) (x := some (.str (tS xm)))
      rw [set_un uM] at e1
      have e2 := e1.setAny (i := iS) (x := some (.str (tS xs)))
      rwa [set_un uS] at e2
    have sR4 : ((σ2.set iM (some (V.str (tS xm)))).set iS (some (.str (tS xs))))[iR]? = some (some (.ref a)) := by
      rw [List.getElem?_set_ne n2, List.getElem?_set_ne n1]; exact sR3
    have sM4 : ((σ2.set iM (some (V.str (tS xm)))).set iS (some (.str (tS xs))))[iM]? = some (some (.str (tS xm))) := by
      rw [List.getElem?_set_ne (Ne.symm n3)]
      exact List.getElem?_set_self (by rw [ev3.1]; exact lenM)
    have sS4 : ((σ2.set iM (some (V.str (tS xm)))).set iS (some (.str (tS xs))))[iS]? = some (some (.str (tS xs))) := List.getElem?_set_self (by rw [List.length_set, ev3.1]; exact lenS)
    refine ⟨px, [.str (tS xm), .str (tS xs)], rfl, n4.fh.sqT h2, rfl, .str (tS xm), [.str (tS xs)], rfl, .str (tS xs), [], rfl, rfl, ?_⟩
    show tTidyBody K iR iM iS (tTidyTest K iR iM) _ ((σ2.set iM (some (.str (tS xm)))).set iS (some (.str (tS xs)))) H4
    generalize ((σ2.set iM (some (V.str (tS xm)))).set iS (some (V.str (tS xs)))) = σ4 at ev4 sR4 sM4 sS4 ⊢
    -- a new run
    have fresh : ∀ (D2 : Ends) (d : List TdR) (vs : List V) (F5 : Hp), (∀ σ' H', (∃ m', m' < told.length - i ∧ W (i + 1) m' σ' H') → D2.nx σ' H') → H4 a = some (.lst vs) → Ex F4 F5 → Ex F5 H4 → F5 a = none → RpAll (Rep.rp K F5) d vs → vs.length < line → Nx [] F H F5 H4 → tdGo (told.drop (i + 1)) (some (d, xm, [xs])) = some cz → H a = none →
        (tSeq (tDrop (tBM K "list" rAppend (tVar iR) (tCons (tTup (tCons (tVar iM) (tCons (tLst (tCons (tVar iS) tNil)) tNil))) tNil))) tNext) D2 σ4 H4 := fun D2 d vs F5 hD k1 k2 k3 k4 k5 k6 k7 k8 k9 => by
      refine ⟨.ref a, sR4, .inl ⟨rfl, _, .of k1⟩, .str (tS xm), sM4, .str (tS xs), sS4, by show 1 ≤ sizeLine; rw [sizeLine_eq]; decide, fun l hl => ⟨by show 2 ≤ sizeLine; rw [sizeLine_eq]; decide, fun p hp => ?_⟩⟩
      generalize hH5 : upd H4 l (.lst [.str (tS xs)]) = H5 at hp ⊢
      generalize hH6 : upd H5 p (.tup [.str (tS xm), .ref l]) = H6
      have x5 : Nx [] F5 H4 F5 H5 := hH5 ▸ Nx.newO k3 hl
      have x6 : Nx [] F5 H5 F5 H6 := hH6 ▸ Nx.newO x5.fh hp
      have xx := x5.trans x6
      have e5l : H5 l = some (.lst [.str (tS xs)]) := by rw [← hH5, upd_same]
      have e6l := x6.hh _ _ e5l
      have e6p : H6 p = some (.tup [.str (tS xm), .ref l]) := by rw [← hH6, upd_same]
      have e6a := xx.hh _ _ k1
      have d1 : a ≠ l := fun z => by rw [z, hl] at k1; cases k1
      have d2 : a ≠ p := fun z => by
        have e := x5.hh _ _ k1
        rw [z, hp] at e
        cases e
      have d3 : p ≠ l := fun z => by rw [z, e5l] at hp; cases hp
      have k7' := k7.trans xx
      have nulH : ∀ {x : Addr}, H4 x = none → H x = none := fun {x} z => by
        by_cases h : H x = none
        · exact h
        · exact absurd z (k7.there x h)
      have nul5 : ∀ {x : Addr}, H5 x = none → H4 x = none := fun {x} z => by
        by_cases h : H4 x = none
        · exact h
        · exact absurd z (x5.there x h)
      refine ⟨a, vs, .ref p, rfl, rfl, e6a, by rw [sizeLine_eq]; exact k6, hD _ _ ⟨_, (by omega : told.length - (i + 1) < told.length - i), rfl, hlt, F5, some (d, xm, [xs]), z4.trans k2, k7'.mutF k9 k4, ?_, ev4.mono k2, sR4, k8⟩⟩
      refine ⟨vs, p, l, [.str (tS xs)], upd_same, by rw [upd_ne (Ne.symm d2)]; exact e6p, by rw [upd_ne (Ne.symm d1)]; exact e6l, ⟨d2, d1, d3⟩, fun x hx => ?_, k5, ⟨rfl, trivial⟩⟩
      have hx' : x = a ∨ x = p ∨ x = l := by simpa using hx
      rcases hx' with rfl | rfl | rfl
      · exact ⟨k9, k4⟩
      · exact ⟨nulH (nul5 hp), x5.fh.none hp⟩
      · exact ⟨nulH hl, k3.none hl⟩
    cases c with
    | none =>
      obtain ⟨w1, w2, w3⟩ := G4
      refine ⟨.ref a, sR4, false, .inl ⟨[], .of w1, rfl⟩, ?_⟩
      show (if false = true then _ else _)
      rw [if_neg Bool.false_ne_true]
      show (if false = true then _ else _)
      rw [if_neg Bool.false_ne_true]
      exact fresh _ [] [] F4 (fun _ _ h => h) w1 (.refl _) n4.fh w3 trivial (by decide) y4 g3 w2
    | some c =>
      obtain ⟨d, m, ss⟩ := c
      obtain ⟨vs, p, l, ws, w1, w2, w3, w4, w5, w6, w7⟩ := G4
      have hg : (if m = xm then (if ss.length < line then tdGo (told.drop (i + 1)) (some (d, m, ss ++ [xs])) else none) else if d.length + 1 < line then tdGo (told.drop (i + 1)) (some (d ++ [(m, ss)], xm, [xs])) else none) = some cz := g3
      have lastOk : ∀ (j : Int) (y : V), (j = 0 ∧ y = .str (tS m)) ∨ (j = 1 ∧ y = .ref l) → ∀ Q : VK, Q y H4 → tOp (rIxT K) (tdLast K iR) (tC (.int j)) σ4 H4 Q := fun j y hj Q hQ => by
        refine ⟨.ref a, sR4, 1, rfl, a, _, -1, .ref p, rfl, rfl, .of w1, atI_last, p, [.str (tS m), .ref l], j, y, rfl, rfl, .inl (.inl w2), ?_, hQ⟩
        rcases hj with ⟨rfl, rfl⟩ | ⟨rfl, rfl⟩ <;> rfl
      refine ⟨.ref a, sR4, true, .inl ⟨_, .of w1, by simp⟩, ?_⟩
      show (if true = true then _ else _)
      rw [if_pos rfl]
      refine lastOk 0 _ (.inl ⟨rfl, rfl⟩) _ ⟨.str (tS xm), sM4, ?_⟩
      refine ⟨rfl, decide (m = xm), ?_, ?_⟩
      · rw [V_str_eq_dec]
      have npa := w5 a (by simp)
      have npp := w5 p (by simp)
      have npl := w5 l (by simp)
      by_cases hmx : m = xm
      · rw [if_pos hmx] at hg
        rw [decide_eq_true hmx]
        show (if true = true then _ else _)
        rw [if_pos rfl]
        by_cases hln : ss.length < line
        · rw [if_pos hln] at hg
          refine lastOk 1 _ (.inr ⟨rfl, rfl⟩) _ ⟨.inl ⟨rfl, ws, .of w3⟩, .str (tS xs), sS4, l, ws, .str (tS xs), rfl, rfl, w3, ?_, ?_⟩
          · rw [← w7.length, sizeLine_eq]; exact hln
          · have ne : ∀ {x}, x ≠ l → upd H4 l (.lst (ws ++ [.str (tS xs)])) x = H4 x := fun h => upd_ne h
            exact ⟨_, (by omega : told.length - (i + 1) < told.length - i), rfl, hlt, F4, some (d, m, ss ++ [xs]), z4, y4.mutF npl.1 npl.2, ⟨vs, p, l, ws ++ [.str (tS xs)], by rw [ne w4.2.1]; exact w1, by rw [ne w4.2.2]; exact w2, upd_same, w4, w5, w6, w7.app ⟨rfl, trivial⟩⟩, ev4, sR4, hg⟩
        · rw [if_neg hln] at hg
          cases hg
      · rw [if_neg hmx] at hg
        rw [decide_eq_false hmx]
        show (if false = true then _ else _)
        rw [if_neg Bool.false_ne_true]
        by_cases hln : d.length + 1 < line
        · rw [if_pos hln] at hg
          -- the finished run stays as it is from now on
          let F5 := upd F4 l (.lst ws)
          let F6 := upd F5 p (.tup [.str (tS m), .ref l])
          have f5p : F5 p = none := by
            show upd F4 l _ p = none
            rw [upd_ne w4.2.2]; exact npp.2
          have y5 : Nx [] F H F5 H4 := y4.frzF npl.1 npl.2 w3
          have y6 : Nx [] F H F6 H4 := y5.frzF npp.1 f5p w2
          have e46 : Ex F4 F6 := (Ex.new npl.2).trans (Ex.new f5p)
          have f6a : F6 a = none := by
            show upd F5 p _ a = none
            rw [upd_ne w4.1]
            show upd F4 l _ a = none
            rw [upd_ne w4.2.1]; exact npa.2
          have f6p : F6 p = some (.tup [.str (tS m), .ref l]) := upd_same
          have f6l : F6 l = some (.lst ws) := by
            show upd F5 p _ l = _
            rw [upd_ne (Ne.symm w4.2.2)]
            exact upd_same
          refine fresh _ (d ++ [(m, ss)]) (vs ++ [.ref p]) F6 (fun _ _ h => h) w1 e46 y6.fh f6a ((w6.imp fun _ _ => Rep.mono e46).app ⟨⟨p, .str (tS m), .ref l, rfl, .inl (.inl f6p), rfl, l, ws, rfl, f6l, w7.imp fun _ _ => Rep.mono e46⟩, trivial⟩) ?_ y6 hg npa.1
          rw [List.length_append, ← w6.length]
          exact hln
        · rw [if_neg hln] at hg
          cases hg
  · have ei : i = told.length := by omega
    subst ei
    rw [List.drop_length] at g3
    have g3 : some c = some cz := g3
    cases g3
    refine .inl ⟨t2 rfl, ?_⟩
    have fin : ∀ (F5 : Hp), Ex F3 F5 → Nx [] F H F5 H3 → Rep.rp K F5 (tdEnd cz) (.ref a) → tr D σ2 H3 := fun F5 k1 k2 k3 => by
      have ev5 : EnvOk [] (env.set iR (Sl.of K (tdEnd cz))) σ2 F5 := by
        have e := (ev3.mono k1).set (i := iR) (s := Sl.of K (tdEnd cz)) (v := .ref a) fun _ => ⟨_, rfl, k3⟩
        have es : σ2.set iR (some (.ref a)) = σ2 := by
          apply List.ext_getElem?
          intro j
          by_cases hj : iR = j
          · subst hj
            rw [sR3, List.getElem?_set_self (by rw [ev3.1]; exact lenR)]
          · rw [List.getElem?_set_ne hj]
        rwa [es] at e
      exact hr (tdEnd cz) [] σ2 F5 H3 b1 ⟨k2.fh, .nil, ev5⟩ o b' hm D (q.step k2)
    cases cz with
    | none =>
      obtain ⟨w1, w2, w3⟩ := G3
      exact fin (upd F3 a (.lst [])) (.new w3) (y3.frzF w2 w3 w1) ⟨a, [], rfl, upd_same, trivial⟩
    | some c =>
      obtain ⟨d, m, ss⟩ := c
      obtain ⟨vs, p, l, ws, w1, w2, w3, w4, w5, w6, w7⟩ := G3
      have npa := w5 a (by simp)
      have npp := w5 p (by simp)
      have npl := w5 l (by simp)
      let F5 := upd F3 l (.lst ws)
      let F6 := upd F5 p (.tup [.str (tS m), .ref l])
      let F7 := upd F6 a (.lst (vs ++ [.ref p]))
      have f5p : F5 p = none := by
        show upd F3 l _ p = none
        rw [upd_ne w4.2.2]; exact npp.2
      have f6a : F6 a = none := by
        show upd F5 p _ a = none
        rw [upd_ne w4.1]
        show upd F3 l _ a = none
        rw [upd_ne w4.2.1]; exact npa.2
      have y5 : Nx [] F H F5 H3 := y3.frzF npl.1 npl.2 w3
      have y6 : Nx [] F H F6 H3 := y5.frzF npp.1 f5p w2
      have y7 : Nx [] F H F7 H3 := y6.frzF npa.1 f6a w1
      have e37 : Ex F3 F7 := ((Ex.new npl.2).trans (Ex.new f5p)).trans (Ex.new f6a)
      have f7p : F7 p = some (.tup [.str (tS m), .ref l]) := by
        show upd F6 a _ p = _
        rw [upd_ne (Ne.symm w4.1)]
        exact upd_same
      have f7l : F7 l = some (.lst ws) := by
        show upd F6 a _ l = _
        rw [upd_ne (Ne.symm w4.2.1)]
        show upd F5 p _ l = _
        rw [upd_ne (Ne.symm w4.2.2)]
        exact upd_same
      exact fin F7 e37 y7 ⟨a, _, rfl, upd_same, (w6.imp fun _ _ => Rep.mono e37).app ⟨⟨p, .str (tS m), .ref l, rfl, .inl (.inl f7p), rfl, l, ws, rfl, f7l, w7.imp fun _ _ => Rep.mono e37⟩, trivial⟩⟩
end
end Tw

namespace Tw
open PySem L2
section
variable {K : PySem.W.Frag}
variable {β α γ δ : Type} [Rep K α] [Rep K γ] [Rep K δ] {env : List Sl} {f : β → List OV}
/-! ### a module's constants -/
def CstV (K : PySem.W.Frag) {α : Type} [Rep K α] (x : α) (v : V) : Prop := ∀ F : Hp, Rep.rp K F x v
theorem es_cst {x : α} {v : V} (h : CstV K x v) : Es K (tC v) env f (pu x) := by
  intro as σ F H b S y b' hm Q q
  obtain ⟨rfl, rfl⟩ := pu_some hm
  exact q _ F H (.refl S.ex) S.os (h F)
def ItC (K : PySem.W.Frag) {α : Type} [Rep K α] (x : α) (u : Value) : Prop := ∃ v : V, RelV v u ∧ CstV K x v
theorem itc_str {u : Value} {x : Tx} (s : Str) (r : RelV (.str s) u) (h : s.cps.toList = x) : ItC K x u := ⟨.str s, r, fun F => by
  show V.str s = V.str (tS x)
  rw [← h, tS_of]⟩
theorem itc_int {u : Value} {i : Int} (r : RelV (.int i) u) : ItC K i u := ⟨.int i, r, fun F => rfl⟩
theorem itc_pair {a : Addr} {od : Option Addr} {u w : Value} {n : Nat} {sl : Array (Option Value)} {x : α} {y : γ} (l : K.lookup a = some ⟨.type "tuple", od, .seq ⟨[u, w]⟩ n, sl⟩) (h1 : ItC K x u) (h2 : ItC K y w) : ItC K (x, y) (.ref a) := by
  obtain ⟨v1, r1, c1⟩ := h1
  obtain ⟨v2, r2, c2⟩ := h2
  exact ⟨.ref a, rfl, fun F => ⟨a, v1, v2, rfl, .inr ⟨_, _, n, l, rfl, rfl, by show 2 ≤ sizeLine; rw [sizeLine_eq]; decide, .cons r1 (.cons r2 .nil)⟩, c1 F, c2 F⟩⟩
inductive ItAll (K : PySem.W.Frag) {α : Type} [Rep K α] : List α → List Value → Prop
  | nil : ItAll K [] []
  | cons {x : α} {u : Value} {xs : List α} {us : List Value} (h : ItC K x u) (t : ItAll K xs us) : ItAll K (x :: xs) (u :: us)
theorem ItAll.vals {xs : List α} {us : List Value} (h : ItAll K xs us) : ∃ vs : List V, Vals vs us ∧ ∀ F, RpAll (Rep.rp K F) xs vs := by
  induction h with
  | nil => exact ⟨[], .nil, fun _ => trivial⟩
  | cons h _ ih =>
    obtain ⟨v, r, c⟩ := h
    obtain ⟨vs, rs, cs⟩ := ih
    exact ⟨v :: vs, .cons r rs, fun F => ⟨c F, cs F⟩⟩
theorem itc_tup {a : Addr} {od : Option Addr} {us : List Value} {n : Nat} {sl : Array (Option Value)} {xs : List α} (l : K.lookup a = some ⟨.type "tuple", od, .seq ⟨us⟩ n, sl⟩) (h : ItAll K xs us) (hl : us.length ≤ 1000) : ItC K (Tp.mk xs) (.ref a) := by
  obtain ⟨vs, rs, cs⟩ := h.vals
  exact ⟨.ref a, rfl, fun F => ⟨a, vs, rfl, .inr ⟨_, _, n, l, rfl, rfl, by
    rw [sizeLine_eq]
    exact Nat.le_trans hl (by decide), rs⟩, cs F⟩⟩
theorem cst_mk {h : Heap} {mg : Str → Option Value} {x : Str} {u : Value} {y : α} (X : K.In h) (G : h.Ns mainGlobals mg) (e : PySem.W.nsIn K mainGlobals x = some (some u)) (r : ItC K y u) : ∃ v u, mg x = some u ∧ RelV v u ∧ CstV K y v := by
  obtain ⟨v, r1, c⟩ := r
  exact ⟨v, u, PySem.W.mg_of X G e, r1, c⟩
/-! ### what isinstance tells of a typed value -/
class TyN (K : PySem.W.Frag) (α : Type) [Rep K α] where
  nm : String
  ty : ∀ {F H : Hp} {x : α} {v : V}, Ex F H → Rep.rp K F x v → TyX K H v (.type nm)
instance : TyN K Bool := ⟨"bool", fun {F H x v} _ r => by
  have r : v = .bl x := r
  subst r
  exact .base (.bl x)⟩
instance : TyN K Int := ⟨"int", fun {F H x v} _ r => by
  have r : v = .int x := r
  subst r
  exact .base (.int x)⟩
instance : TyN K Tx := ⟨"str", fun {F H x v} _ r => by
  have r : v = .str (tS x) := r
  subst r
  exact .base (.str _)⟩
instance : TyN K (α × γ) := ⟨"tuple", fun {F H x v} e r => by
  obtain ⟨p, u, w, rfl, h, _⟩ := r
  exact tyX_sqT (e.sqT h)⟩
instance : TyN K (T3 α γ δ) := ⟨"tuple", fun {F H x v} e r => by
  obtain ⟨p, u, w, z, rfl, h, _⟩ := r
  exact tyX_sqT (e.sqT h)⟩
instance : TyN K (List α) := ⟨"list", fun {F H x v} e r => by
  obtain ⟨p, vs, rfl, h, _⟩ := r
  exact .base (.lst (e _ _ h))⟩
theorem es_isiN [TyN K α] {te : TE} {m : M β β α} {T : String} (b : Bool) (hk : kitB (TyN.nm K α) T = some b) (h : Es K te env f m) : Es K (tCB (rIsi K) (tCons te (tCons (tC (.ty T)) tNil))) env f (mMap (fun _ => b) m) := by
  intro as σ F H bb S z b' hm Q q
  obtain ⟨x, b1, e1, hm⟩ := bd_some hm
  obtain ⟨rfl, rfl⟩ := pu_some hm
  refine h as σ F H bb S x _ e1 _ fun v F1 H1 n1 o1 r1 => ?_
  exact ⟨v, .ty T, .type (TyN.nm K α), .type T, b, rfl, .ty _, TyN.ty n1.fh r1, kit_ty hk, q _ _ _ n1 o1 rfl⟩
/-! ### list(x), tuple(x) -/
def rListOf (K : PySem.W.Frag) : List V → Hp → VK → Prop := fun xs H Q => ∃ p ys, xs = [.ref p] ∧ (SqL K H p ys ∨ SqT K H p ys) ∧ ∀ l, H l = none → Q (.ref l) (upd H l (.lst ys))
theorem callListOf {X : Cx} : CallR X (.type "list") (rListOf X.K) := call_list_of
def rTupOf (K : PySem.W.Frag) : List V → Hp → VK → Prop := fun xs H Q => ∃ p ys, xs = [.ref p] ∧ ((SqL K H p ys ∧ ∀ l, H l = none → Q (.ref l) (upd H l (.tup ys))) ∨ (SqT K H p ys ∧ Q (.ref p) H))
theorem callTupOf {X : Cx} : CallR X (.type "tuple") (rTupOf X.K) := call_tuple_of
theorem cl_listL : Cl K (α := List α × Unit) (γ := List α) (rListOf K) (fun x => some x.1) := fun F H x z vs ex e ra Q q => by
  cases e
  obtain ⟨v, _, rfl, r1, rfl⟩ := ra
  obtain ⟨p, ys, rfl, h2, h3⟩ := r1
  refine ⟨p, ys, rfl, .inl (.of (ex _ _ h2)), fun l hl => ?_⟩
  have n := Nx.new (o := .lst ys) ex hl
  exact q _ _ _ n ⟨l, ys, rfl, upd_same, h3.imp fun _ _ => Rep.mono n.ff⟩
/-- a list of three texts, of a triple; and back -/
theorem cl_listT3 : Cl K (α := T3 α α α × Unit) (γ := List α) (rListOf K) (fun x => some [x.1.a, x.1.b, x.1.c]) := fun F H x z vs ex e ra Q q => by
  cases e
  obtain ⟨v, _, rfl, r1, rfl⟩ := ra
  obtain ⟨p, u, w, y, rfl, h2, h3, h4, h5⟩ := r1
  refine ⟨p, [u, w, y], rfl, .inr (ex.sqT h2), fun l hl => ?_⟩
  have n := Nx.new (o := .lst [u, w, y]) ex hl
  exact q _ _ _ n ⟨l, [u, w, y], rfl, upd_same, ⟨Rep.mono n.ff h3, Rep.mono n.ff h4, Rep.mono n.ff h5, trivial⟩⟩
def gTri {α : Type} : List α × Unit → Option (T3 α α α)
  | ([a, b, c], _) => some ⟨a, b, c⟩
  | _ => none
theorem cl_tupT3 : Cl K (α := List α × Unit) (γ := T3 α α α) (rTupOf K) gTri := fun F H x z vs ex e ra Q q => by
  obtain ⟨xs, u⟩ := x
  match xs, e with
  | [a, b, c], e =>
    cases e
    obtain ⟨v, _, rfl, r1, rfl⟩ := ra
    obtain ⟨p, ys, rfl, h2, h3⟩ := r1
    match ys, h2, h3 with
    | [u, w, y], h2, ⟨r1, r2, r3, _⟩ =>
      refine ⟨p, [u, w, y], rfl, .inl ⟨.of (ex _ _ h2), fun l hl => ?_⟩⟩
      have n := Nx.new (o := .tup [u, w, y]) ex hl
      exact q _ _ _ n ⟨l, u, w, y, rfl, .inl (.of upd_same), Rep.mono n.ff r1, Rep.mono n.ff r2, Rep.mono n.ff r3⟩
theorem ei_tup {te : TE} {m : M β β (Tp α)} (h : Es K te env f m) : Ei K (iTup K te) env f (mMap Tp.xs m) := by
  intro as σ F H b S xs b' hm R q
  obtain ⟨y, b1, e1, hm⟩ := bd_some hm
  obtain ⟨rfl, rfl⟩ := pu_some hm
  refine h as σ F H b S y _ e1 _ fun v F1 H1 n1 o1 r1 => ?_
  obtain ⟨p, vs, rfl, h2, h3⟩ := r1
  refine ⟨p, rfl, ⟨vs, n1.fh.sqT h2⟩, q _ F1 H1 n1 o1 fun i F2 H2 e1 e2 => ⟨fun x hx => ?_, fun hi => ?_⟩⟩
  · have hp : SqT K H2 p vs := e2.sqT (e1.sqT h2)
    obtain ⟨v, hv, hr⟩ := h3.get' hx
    refine ⟨⟨vs, v, hp, hv⟩, fun w H' y => ?_⟩
    obtain ⟨rfl, y2⟩ := y
    have := y2 vs hp
    rw [hv] at this
    cases this
    exact ⟨F2, .refl e2, Rep.mono e1 hr⟩
  · exact ⟨vs, e2.sqT (e1.sqT h2), by rw [← h3.length]; exact Nat.le_of_eq hi.symm⟩
/-! ### in, by data -/
def gInD {α γ : Type} [EqD α] [EqD γ] (x : α) (ys : List γ) : Option Bool := if EqD.ok x = true ∧ EqD.ok ys = true ∧ EqD.dep α ≤ 64 ∧ EqD.dep (List γ) ≤ 64 then some ((ys.map EqD.pd).any fun z => PyData.eqv z (EqD.pd x)) else none
theorem o2_inD [EqD α] [EqR K α] [EqD γ] [EqR K γ] : Op2 K (α := α) (γ := List γ) (rInD K) gInD := fun F H x y z v w ex e r1 r2 Q q => by
  unfold gInD at e
  split at e
  · rename_i h
    cases e
    exact ⟨_, y.map EqD.pd, dp_mono ex (EqR.dp r1), dp_mono ex (EqR.dp (α := List γ) r2), shaped_of h.1 h.2.2.1, shaped_of (α := List γ) h.2.1 h.2.2.2, q _ F H (.refl ex) rfl⟩
  · cases e
/-- a, b = a list of two -/
theorem tg_lp {i j : Nat} {env : List Sl} : Tg K (gLst K 2 (gCons (gName i) (gCons (gName j) gNil))) env (fun x : LP α γ => (env.set i (Sl.of K x.a)).set j (Sl.of K x.b)) := fun as σ F H x v ex ok r Q q => by
  obtain ⟨p, u, w, rfl, h2, h3, h4⟩ := r
  exact ⟨p, [u, w], rfl, .of (ex _ _ h2), rfl, u, [w], rfl, w, [], rfl, rfl, q _ ((ok.set (s := Sl.of K x.a) fun _ => ⟨u, rfl, h3⟩).set (s := Sl.of K x.b) fun _ => ⟨w, rfl, h4⟩)⟩
/-- a list of three things of three kinds -/
structure L3 (α γ δ : Type) where
  a : α
  b : γ
  c : δ
instance : Rep K (L3 α γ δ) := ⟨fun F x v => ∃ p u w z, v = .ref p ∧ F p = some (.lst [u, w, z]) ∧ Rep.rp K F x.a u ∧ Rep.rp K F x.b w ∧ Rep.rp K F x.c z,
  fun e ⟨p, u, w, z, h1, h2, h3, h4, h5⟩ => ⟨p, u, w, z, h1, e _ _ h2, Rep.mono e h3, Rep.mono e h4, Rep.mono e h5⟩⟩
def mkL3 {α γ δ : Type} (x : α × γ × δ × Unit) : L3 α γ δ := ⟨x.1, x.2.1, x.2.2.1⟩
theorem es_l3 {ta : TA} {ma : M β β (α × γ × δ × Unit)} (ha : Ea K ta env f [] ma) : Es K (tLst ta) env f (mMap mkL3 ma) := by
  intro as σ F H b S z b' hm Q q
  obtain ⟨⟨x, y, z3, _⟩, b1, e1, hm⟩ := bd_some hm
  obtain ⟨rfl, rfl⟩ := pu_some hm
  refine ha as σ F H b S _ _ e1 _ fun cs vs F1 H1 n1 o1 hl _ r1 => ?_
  have hcs : cs = [] := List.length_eq_zero_iff.mp hl
  subst hcs
  obtain ⟨v, _, rfl, r1, w, _, rfl, r2, w3, _, rfl, r3, rfl⟩ := r1
  refine ⟨by show 3 ≤ sizeLine; rw [sizeLine_eq]; decide, fun p hp => ?_⟩
  have n2 := Nx.new (o := .lst [v, w, w3]) n1.fh hp
  exact q _ _ _ (n1.trans n2.nil) (o1.step n2) ⟨p, v, w, w3, rfl, upd_same, Rep.mono n2.ff r1, Rep.mono n2.ff r2, Rep.mono n2.ff r3⟩
theorem tg_l3 {i j k : Nat} {env : List Sl} : Tg K (gLst K 3 (gCons (gName i) (gCons (gName j) (gCons (gName k) gNil)))) env (fun x : L3 α γ δ => ((env.set i (Sl.of K x.a)).set j (Sl.of K x.b)).set k (Sl.of K x.c)) := fun as σ F H x v ex ok r Q q => by
  obtain ⟨p, u, w, z, rfl, h2, h3, h4, h5⟩ := r
  exact ⟨p, [u, w, z], rfl, .of (ex _ _ h2), rfl, u, [w, z], rfl, w, [z], rfl, z, [], rfl, rfl, q _ (((ok.set (s := Sl.of K x.a) fun _ => ⟨u, rfl, h3⟩).set (s := Sl.of K x.b) fun _ => ⟨w, rfl, h4⟩).set (s := Sl.of K x.c) fun _ => ⟨z, rfl, h5⟩)⟩
end
theorem bt_list : bootBuiltins "list" = some (.type "list") := by decide +kernel
theorem bt_bool : bootBuiltins "bool" = some (.type "bool") := by decide +kernel
theorem bt_str : bootBuiltins "str" = some (.type "str") := by decide +kernel
end Tw

namespace Tw
open PySem L2
/-! ### things of any kind -/
inductive Th where
  | non
  | int (i : Int)
  | str (t : Tx)
  | tup (xs : List Th)
  | lst (xs : List Th)
section
variable {K : PySem.W.Frag}
mutual
def rpTh (K : PySem.W.Frag) (F : Hp) : Th → V → Prop
  | .non, v => v = .non
  | .int i, v => v = .int i
  | .str t, v => v = .str (tS t)
  | .tup xs, v => ∃ p vs, v = .ref p ∧ SqT K F p vs ∧ rpThs K F xs vs
  | .lst xs, v => ∃ p vs, v = .ref p ∧ F p = some (.lst vs) ∧ rpThs K F xs vs
def rpThs (K : PySem.W.Frag) (F : Hp) : List Th → List V → Prop
  | [], vs => vs = []
  | x :: xs, vs => ∃ v ws, vs = v :: ws ∧ rpTh K F x v ∧ rpThs K F xs ws
end
theorem rpThs_all {F : Hp} : ∀ {xs : List Th} {vs : List V}, rpThs K F xs vs ↔ RpAll (rpTh K F) xs vs
  | [], [] => by unfold rpThs; exact ⟨fun _ => trivial, fun _ => rfl⟩
  | [], v :: vs => by unfold rpThs; exact ⟨fun h => (nomatch h), fun h => h.elim⟩
  | x :: xs, [] => by unfold rpThs; exact ⟨fun ⟨_, _, h, _⟩ => (nomatch h), fun h => h.elim⟩
  | x :: xs, v :: vs => by
    rw [rpThs]
    constructor
    · rintro ⟨v', ws, e, h1, h2⟩
      cases e
      exact ⟨h1, rpThs_all.mp h2⟩
    · rintro ⟨h1, h2⟩
      exact ⟨v, vs, rfl, h1, rpThs_all.mpr h2⟩
mutual
theorem rpTh_mono {F F' : Hp} (e : Ex F F') : ∀ (x : Th) (v : V), rpTh K F x v → rpTh K F' x v
  | .non, v, h => by unfold rpTh at h ⊢; exact h
  | .int i, v, h => by unfold rpTh at h ⊢; exact h
  | .str t, v, h => by unfold rpTh at h ⊢; exact h
  | .tup xs, v, h => by
    unfold rpTh at h ⊢
    obtain ⟨p, vs, h1, h2, h3⟩ := h
    exact ⟨p, vs, h1, e.sqT h2, rpThs_mono e xs vs h3⟩
  | .lst xs, v, h => by
    unfold rpTh at h ⊢
    obtain ⟨p, vs, h1, h2, h3⟩ := h
    exact ⟨p, vs, h1, e _ _ h2, rpThs_mono e xs vs h3⟩
theorem rpThs_mono {F F' : Hp} (e : Ex F F') : ∀ (xs : List Th) (vs : List V), rpThs K F xs vs → rpThs K F' xs vs
  | [], vs, h => by unfold rpThs at h ⊢; exact h
  | x :: xs, vs, h => by
    rw [rpThs] at h ⊢
    obtain ⟨v, ws, h1, h2, h3⟩ := h
    exact ⟨v, ws, h1, rpTh_mono e x v h2, rpThs_mono e xs ws h3⟩
end
instance : Rep K Th := ⟨rpTh K, fun e h => rpTh_mono e _ _ h⟩
/-! typed values as things -/
class ToTh (K : PySem.W.Frag) (α : Type) [Rep K α] where
  th : α → Th
  ok : ∀ {F : Hp} {x : α} {v : V}, Rep.rp K F x v → rpTh K F (th x) v
variable {α γ δ : Type} [Rep K α] [Rep K γ] [Rep K δ]
end
def thS (t : Tx) : Th := .str t
def thI (i : Int) : Th := .int i
def thN (_ : Unit) : Th := .non
def thP {α γ : Type} (f : α → Th) (g : γ → Th) (x : α × γ) : Th := .tup [f x.1, g x.2]
def thT3 {α γ δ : Type} (f : α → Th) (g : γ → Th) (h : δ → Th) (x : T3 α γ δ) : Th := .tup [f x.a, g x.b, h x.c]
def thL {α : Type} (f : α → Th) (xs : List α) : Th := .lst (xs.map f)
def thTp {α : Type} (f : α → Th) (xs : Tp α) : Th := .tup (xs.xs.map f)
section
variable {K : PySem.W.Frag} {α γ δ : Type} [Rep K α] [Rep K γ] [Rep K δ] {f : α → Th} {g : γ → Th} {h : δ → Th}
theorem cast_thS : Cast K (thS : Tx → Th) := fun F x v r => by show rpTh K F (.str x) v; unfold rpTh; exact r
theorem cast_thI : Cast K (thI : Int → Th) := fun F x v r => by show rpTh K F (.int x) v; unfold rpTh; exact r
theorem cast_thN : Cast K (thN : Unit → Th) := fun F x v r => by show rpTh K F .non v; unfold rpTh; exact r
theorem cast_th : Cast K (fun x : Th => x) := fun F x v r => r
theorem cast_thP (cf : Cast K f) (cg : Cast K g) : Cast K (thP f g : α × γ → Th) := fun F x v r => by
  obtain ⟨p, u, w, rfl, h1, h2, h3⟩ := r
  show rpTh K F (.tup _) _
  unfold rpTh
  exact ⟨p, [u, w], rfl, h1, rpThs_all.mpr ⟨cf _ _ _ h2, cg _ _ _ h3, trivial⟩⟩
theorem cast_thT3 (cf : Cast K f) (cg : Cast K g) (ch : Cast K h) : Cast K (thT3 f g h : T3 α γ δ → Th) := fun F x v r => by
  obtain ⟨p, u, w, z, rfl, h1, h2, h3, h4⟩ := r
  show rpTh K F (.tup _) _
  unfold rpTh
  exact ⟨p, [u, w, z], rfl, h1, rpThs_all.mpr ⟨cf _ _ _ h2, cg _ _ _ h3, ch _ _ _ h4, trivial⟩⟩
theorem RpAll.mapF {r r' : Th → V → Prop} {q : α → V → Prop} (hq : ∀ x v, q x v → r' (f x) v) : ∀ {xs : List α} {vs : List V}, RpAll q xs vs → RpAll r' (xs.map f) vs
  | [], [], _ => trivial
  | _ :: _, _ :: _, ⟨a, t⟩ => ⟨hq _ _ a, RpAll.mapF (r := r) hq t⟩
  | [], _ :: _, h => h.elim
  | _ :: _, [], h => h.elim
theorem cast_thL (cf : Cast K f) : Cast K (thL f : List α → Th) := fun F x v r => by
  obtain ⟨p, vs, rfl, h1, h2⟩ := r
  show rpTh K F (.lst _) _
  unfold rpTh
  exact ⟨p, vs, rfl, h1, rpThs_all.mpr (RpAll.mapF (r := rpTh K F) (fun x v h => cf _ _ _ h) h2)⟩
theorem cast_thTp (cf : Cast K f) : Cast K (thTp f : Tp α → Th) := fun F x v r => by
  obtain ⟨p, vs, rfl, h1, h2⟩ := r
  show rpTh K F (.tup _) _
  unfold rpTh
  exact ⟨p, vs, rfl, h1, rpThs_all.mpr (RpAll.mapF (r := rpTh K F) (fun x v h => cf _ _ _ h) h2)⟩
/-- a list of typed values as a list of things -/
theorem cast_mapL (cf : Cast K f) : Cast K (fun xs : List α => xs.map f) := fun F x v r => by
  obtain ⟨p, vs, rfl, h1, h2⟩ := r
  exact ⟨p, vs, rfl, h1, RpAll.mapF (r := rpTh K F) (fun x v h => cf _ _ _ h) h2⟩
/-! things as typed values, where they are -/
def Th.asS : Th → Option Tx | .str t => some t | _ => none
def Th.asL : Th → Option (List Th) | .lst xs => some xs | _ => none
def Th.asT : Th → Option (Tp Th) | .tup xs => some ⟨xs⟩ | _ => none
def Th.asP : Th → Option (Th × Th) | .tup [a, b] => some (a, b) | _ => none
def Th.asF3 : Th → Option (T3 Tx Tx Tx) | .tup [.str a, .str b, .str c] => some ⟨a, b, c⟩ | _ => none
def asLP (xs : List Th) : Option (List (Th × Th)) := xs.mapM Th.asP
theorem castO_S : CastO K Th.asS := fun F x y v e r => by
  cases x with
  | str t => cases e; have r : rpTh K F (.str y) v := r; unfold rpTh at r; exact r
  | non => cases e
  | int i => cases e
  | tup xs => cases e
  | lst xs => cases e
theorem castO_L : CastO K Th.asL := fun F x y v e r => by
  cases x with
  | lst xs =>
    cases e
    have r : rpTh K F (.lst y) v := r
    unfold rpTh at r
    obtain ⟨p, vs, h1, h2, h3⟩ := r
    exact ⟨p, vs, h1, h2, rpThs_all.mp h3⟩
  | non => cases e
  | int i => cases e
  | tup xs => cases e
  | str xs => cases e
theorem castO_T : CastO K Th.asT := fun F x y v e r => by
  cases x with
  | tup xs =>
    cases e
    have r : rpTh K F (.tup xs) v := r
    unfold rpTh at r
    obtain ⟨p, vs, h1, h2, h3⟩ := r
    exact ⟨p, vs, h1, h2, rpThs_all.mp h3⟩
  | non => cases e
  | int i => cases e
  | lst xs => cases e
  | str xs => cases e
theorem th_asP {F : Hp} {x : Th} {y : Th × Th} {v : V} (e : x.asP = some y) (r : rpTh K F x v) : Rep.rp K F y v := by
  unfold Th.asP at e
  split at e
  · cases e
    unfold rpTh at r
    obtain ⟨p, vs, h1, h2, h3⟩ := r
    match vs, rpThs_all.mp h3 with
    | [u, w], ⟨q1, q2, _⟩ => exact ⟨p, u, w, h1, h2, q1, q2⟩
  · cases e
theorem castO_LP : CastO K asLP := fun F xs ys v e r => by
  obtain ⟨p, vs, rfl, h1, h2⟩ := r
  refine ⟨p, vs, rfl, h1, ?_⟩
  clear h1
  induction xs generalizing ys vs with
  | nil =>
    cases e
    cases vs with
    | nil => trivial
    | cons _ _ => exact h2.elim
  | cons x xs ih =>
    cases vs with
    | nil => exact h2.elim
    | cons w ws =>
      unfold asLP at e
      rw [List.mapM_cons] at e
      cases ea : x.asP with
      | none => rw [ea] at e; cases e
      | some y =>
        rw [ea] at e
        cases eb : xs.mapM Th.asP with
        | none => 
          have e : (do let bs ← xs.mapM Th.asP; pure (y :: bs)) = some ys := e
          rw [eb] at e
          cases e
        | some ys' =>
          have e : (do let bs ← xs.mapM Th.asP; pure (y :: bs)) = some ys := e
          rw [eb] at e
          cases e
          exact ⟨th_asP ea h2.1, ih _ eb _ h2.2⟩
theorem castO_F3 : CastO K Th.asF3 := fun F x y v e r => by
  unfold Th.asF3 at e
  split at e
  · cases e
    have r : rpTh K F _ v := r
    unfold rpTh at r
    obtain ⟨p, vs, h1, h2, h3⟩ := r
    match vs, rpThs_all.mp h3 with
    | [u, w, z], ⟨q1, q2, q3, _⟩ =>
      have q1 : rpTh K F _ u := q1
      have q2 : rpTh K F _ w := q2
      have q3 : rpTh K F _ z := q3
      unfold rpTh at q1 q2 q3
      exact ⟨p, u, w, z, h1, h2, q1, q2, q3⟩
  · cases e
def Th.nm : Th → String | .non => "NoneType" | .int _ => "int" | .str _ => "str" | .tup _ => "tuple" | .lst _ => "list"
theorem tyX_th {F H : Hp} {x : Th} {v : V} (e : Ex F H) (r : rpTh K F x v) : TyX K H v (.type x.nm) := by
  cases x with
  | non => unfold rpTh at r; rw [r]; exact .base .non
  | int i => unfold rpTh at r; rw [r]; exact .base (.int i)
  | str t => unfold rpTh at r; rw [r]; exact .base (.str _)
  | tup xs => unfold rpTh at r; obtain ⟨p, vs, rfl, h, _⟩ := r; exact tyX_sqT (e.sqT h)
  | lst xs => unfold rpTh at r; obtain ⟨p, vs, rfl, h, _⟩ := r; exact .base (.lst (e _ _ h))
variable {β : Type} {env : List Sl} {fo : β → List OV}
def gIsa (T : String) (x : Th) : Option Bool := kitB x.nm T
theorem es_isiTh {te : TE} {m : M β β Th} {T : String} (h : Es K te env fo m) : Es K (tCB (rIsi K) (tCons te (tCons (tC (.ty T)) tNil))) env fo (mMapO (gIsa T) m) := by
  intro as σ F H bb S z b' hm Q q
  obtain ⟨x, b1, e1, hm⟩ := bd_some hm
  obtain ⟨e2, rfl⟩ := ov_some hm
  refine h as σ F H bb S x _ e1 _ fun v F1 H1 n1 o1 r1 => ?_
  exact ⟨v, .ty T, .type x.nm, .type T, z, rfl, .ty _, tyX_th n1.fh r1, kit_ty e2, q _ _ _ n1 o1 rfl⟩
/-! ### all, sum, chains -/
def gAll (x : List Bool × Unit) : Option Bool := some (x.1.all id)
theorem rp_bools {F : Hp} : ∀ {xs : List Bool} {vs : List V}, RpAll (Rep.rp K F) xs vs → vs = xs.map V.bl
  | [], [], _ => rfl
  | x :: xs, v :: vs, ⟨a, t⟩ => by
    have a : v = .bl x := a
    rw [a, rp_bools t]
    rfl
  | [], _ :: _, h => h.elim
  | _ :: _, [], h => h.elim
theorem rp_ints {F : Hp} : ∀ {xs : List Int} {vs : List V}, RpAll (Rep.rp K F) xs vs → vs = xs.map V.int
  | [], [], _ => rfl
  | x :: xs, v :: vs, ⟨a, t⟩ => by
    have a : v = .int x := a
    rw [a, rp_ints t]
    rfl
  | [], _ :: _, h => h.elim
  | _ :: _, [], h => h.elim
theorem cl_all : Cl K (α := List Bool × Unit) (γ := Bool) (rAll K) gAll := fun F H x z vs ex e ra Q q => by
  cases e
  obtain ⟨v, _, rfl, ⟨p, ws, rfl, h2, h3⟩, rfl⟩ := ra
  have := rp_bools h3
  subst this
  exact ⟨p, x.1, rfl, .of (ex _ _ h2), q _ F H (.refl ex) rfl⟩
def gSum (x : List Int × Unit) : Option Int := some x.1.sum
theorem cl_sum : Cl K (α := List Int × Unit) (γ := Int) (rSum K) gSum := fun F H x z vs ex e ra Q q => by
  cases e
  obtain ⟨v, _, rfl, ⟨p, ws, rfl, h2, h3⟩, rfl⟩ := ra
  have := rp_ints h3
  subst this
  exact ⟨p, x.1, rfl, .of (ex _ _ h2), q _ F H (.refl ex) rfl⟩
theorem cl_lenTp : Cl K (α := Tp α × Unit) (γ := Int) (rLenQ K) (fun x => some (x.1.xs.length : Int)) := fun F H x z vs ex e ra Q q => by
  cases e
  obtain ⟨v, _, rfl, ⟨p, ws, rfl, h2, h3⟩, rfl⟩ := ra
  refine ⟨p, ws, rfl, .inr (ex.sqT h2), q _ F H (.refl ex) ?_⟩
  show V.int _ = V.int _
  rw [h3.length]
theorem o2_ixTp : Op2 K (α := Tp α) (γ := Int) (rIxT K) (fun x i => atI x.xs i) := fun F H x y z v w ex e r1 r2 Q q => by
  obtain ⟨p, vs, rfl, h2, h3⟩ := r1
  obtain ⟨u, hu, ru⟩ := h3.atI e
  exact ⟨p, vs, y, u, rfl, r2, ex.sqT h2, hu, q _ F H (.refl ex) ru⟩
def rLeS : R2 := fun x y H Q => ∃ i j, x = .str i ∧ y = .str j ∧ Q (.bl (!decide (j.cps.toList < i.cps.toList))) H
theorem op_leS {X : Cx} : OpR X (compareOp .LtE) rLeS := op_le_str
def gLeS (x y : Tx) : Option Bool := some (!decide (y < x))
theorem o2_leS : Op2 K (α := Tx) (γ := Tx) rLeS gLeS := fun F H x y z v w ex e r1 r2 Q q => by
  cases e
  have r1 : v = .str (tS x) := r1
  have r2 : w = .str (tS y) := r2
  subst r1 r2
  refine ⟨_, _, rfl, rfl, q _ F H (.refl ex) ?_⟩
  show V.bl _ = V.bl _
  rw [tS_cps, tS_cps]
def mChain {α γ δ : Type} (g : α → γ → Option Bool) (g' : γ → δ → Option Bool) (ma : M β β α) (mb : M β β γ) (mc : M β β δ) : M β β Bool := bd ma fun x => bd mb fun y => bd (ov (g x y)) fun c => if c = true then bd mc fun z => ov (g' y z) else pu false
theorem es_chain {r r' : R2} {g : α → γ → Option Bool} {g' : γ → δ → Option Bool} (h1 : Op2 K r g) (h2 : Op2 K r' g') {ta tb tc : TE} {ma : M β β α} {mb : M β β γ} {mc : M β β δ} (ha : Es K ta env fo ma) (hb : Es K tb env fo mb) (hc : Es K tc env fo mc) : Es K (tChain r r' ta tb tc) env fo (mChain g g' ma mb mc) := by
  intro as σ F H b S z b' hm Q q
  obtain ⟨x, b1, e1, hm⟩ := bd_some hm
  obtain ⟨y, b2, e2, hm⟩ := bd_some hm
  obtain ⟨c, b3, e3, hm⟩ := bd_some hm
  obtain ⟨e4, rfl⟩ := ov_some e3
  refine ha as σ F H b S x b1 e1 _ fun v F1 H1 n1 o1 r1 => ?_
  refine hb as σ F1 H1 b1 (S.step n1 o1) y _ e2 _ fun w F2 H2 n2 o2 r2 => ?_
  refine h1 F2 H2 x y c v w n2.fh e4 (Rep.mono n2.ff r1) r2 _ fun u F3 H3 n3 r3 => ⟨c, r3, ?_⟩
  have n13 := (n1.trans n2).trans n3.nil
  have o3 := o2.step n3
  cases c with
  | true =>
    rw [if_pos rfl] at hm ⊢
    obtain ⟨z', b4, e5, hm⟩ := bd_some hm
    obtain ⟨e6, rfl⟩ := ov_some hm
    refine hc as σ F3 H3 _ (S.step n13 o3) z' _ e5 _ fun w' F4 H4 n4 o4 r4 => ?_
    exact h2 F4 H4 y z' z w w' n4.fh e6 (Rep.mono n4.ff (Rep.mono n3.ff r2)) r4 Q fun u' F5 H5 n5 r5 => q u' F5 H5 ((n13.trans n4).trans n5.nil) (o4.step n5) r5
  | false =>
    rw [if_neg Bool.false_ne_true] at hm ⊢
    obtain ⟨rfl, rfl⟩ := pu_some hm
    exact q _ F3 H3 n13 o3 rfl
end
theorem bt_all : bootBuiltins "all" = some (.builtin "all") := by decide +kernel
theorem bt_sum : bootBuiltins "sum" = some (.builtin "sum") := by decide +kernel
end Tw

namespace Tw
open PySem L2
section
variable {K : PySem.W.Frag} {β β2 γ ρ α : Type} [Rep K ρ] [Rep K α] {env : List Sl} {f : β → List OV} {f2 : β2 → List OV} {eN : γ → List Sl}
theorem ss_newOf {γ : Type} {eN : γ → List Sl} {i k : Nat} {te : TE} {tr : TS} {ma : M β β (T3 α α α)} {mr : M (β × List α) β2 (Fl γ ρ)} (ha : Es K te env f ma) (hk : ∀ b, (f b).length = k) (h2 : ∀ b, (f2 b).length ≤ k) (hr : Ss K tr (env.set i (.own k)) (extF K f) f2 mr eN) :
    Ss K (tSeq (tAsg (tCB (rListOf K) (tCons te tNil)) (gName i)) tr) env f f2 (bd ma fun x => fun b => mr (b, [x.a, x.b, x.c])) eN := by
  intro as σ F0 H0 b0 S0 o b' hm D q0
  obtain ⟨x, b, e1, hm⟩ := bd_some hm
  refine ha as σ F0 H0 b0 S0 x b e1 _ fun v F H nn oo rr => ?_
  have S := S0.step nn oo
  have q := q0.step nn
  obtain ⟨p0, u1, u2, u3, rfl, w1, w2, w3, w4⟩ := rr
  refine ⟨p0, [u1, u2, u3], rfl, .inr (S.ex.sqT w1), fun p hp => ?_⟩
  have hrep : RpAll (Rep.rp K F) [x.a, x.b, x.c] [u1, u2, u3] := ⟨w2, w3, w4, trivial⟩
  generalize [u1, u2, u3] = ys at hrep ⊢
  generalize [x.a, x.b, x.c] = xs at hrep hm
  have n1 : Nx [] F H F (upd H p (.lst ys)) := Nx.newO S.ex hp
  have hpas := S.os.ne hp
  have hl : as.length = k := S.os.2.1.trans (hk b)
  have hF : F p = none := S.ex.none hp
  have o1 : OsOk (as ++ [p]) (f b ++ [ovL K xs]) F (upd H p (.lst ys)) := by
    have o := S.os.mut (o := .lst ys) hpas
    refine ⟨?_, by rw [List.length_append, List.length_append, o.2.1]; rfl, fun j a v h1 h2 => ?_⟩
    · rw [List.nodup_append]
      exact ⟨o.1, by simp, fun x hx y hy => by
        have : y = p := by simpa using hy
        subst this
        exact fun z => hpas (by rw [← z]; exact hx)⟩
    · by_cases hj : j < as.length
      · rw [List.getElem?_append_left hj] at h1
        rw [List.getElem?_append_left (by rw [← S.os.2.1]; exact hj)] at h2
        exact o.2.2 j a v h1 h2
      · rw [List.getElem?_append_right (by omega)] at h1
        rw [List.getElem?_append_right (by rw [← S.os.2.1]; omega)] at h2
        have hj0 : j - as.length = 0 := by
          have := (List.getElem?_eq_some_iff.mp h1).1
          simp at this
          omega
        rw [hj0] at h1
        rw [← S.os.2.1, hj0] at h2
        cases h1
        cases h2
        exact ⟨hF, by rw [upd_same]; exact nofun, ys, upd_same, hrep⟩
  have ev := (S.env.own (i := i) (p := p))
  rw [hl] at ev
  refine hr (as ++ [p]) _ F (upd H p (.lst ys)) (b, xs) ⟨n1.fh, o1, ev⟩ o b' hm D ?_
  have back : ∀ {F' H'}, Nx (as ++ [p]) F (upd H p (.lst ys)) F' H' → Nx as F H F' H' := fun {F' H'} n => by
    have ne : ∀ a, H a ≠ none → a ≠ p := fun a h z => h (by rw [z]; exact hp)
    refine ⟨n.ff, n.fh, fun a u h e => ?_, fun a m h => n.old a (fun z => (List.mem_append.mp z).elim m fun z => ne a h (by simpa using z)) (by rw [upd_ne (ne a h)]; exact h), fun a h => n.there a (by rw [upd_ne (ne a h)]; exact h)⟩
    have hne : a ≠ p := ne a (by rw [e]; exact fun z => nomatch z)
    refine n.keep a u (fun m => ?_) (by rw [upd_ne hne]; exact e)
    rcases List.mem_append.mp m with z | z
    · exact h z
    · exact hne (by simpa using z)
  have tk : ∀ b : β2, (as ++ [p]).take (f2 b).length = as.take (f2 b).length := fun b => List.take_append_of_le_length (by rw [hl]; exact h2 b)
  cases o with
  | nx g => exact fun σ' F' H' n' S' => q σ' F' H' (back n') (by rw [← tk]; exact S')
  | bk g => exact fun σ' F' H' n' S' => q σ' F' H' (back n') (by rw [← tk]; exact S')
  | ct g => exact fun σ' F' H' n' S' => q σ' F' H' (back n') (by rw [← tk]; exact S')
  | rt r => exact fun v F' H' n' o' => q v F' H' (back n') (by rw [← tk]; exact o')
theorem cl_tupL : Cl K (α := List α × Unit) (γ := Tp α) (rTupOf K) (fun x => some (Tp.mk x.1)) := fun F H x z vs ex e ra Q q => by
  cases e
  obtain ⟨v, _, rfl, r1, rfl⟩ := ra
  obtain ⟨p, ys, rfl, h2, h3⟩ := r1
  refine ⟨p, ys, rfl, .inl ⟨.of (ex _ _ h2), fun l hl => ?_⟩⟩
  have n := Nx.new (o := .tup ys) ex hl
  exact q _ _ _ n ⟨l, ys, rfl, .inl (.of upd_same), h3.imp fun _ _ => Rep.mono n.ff⟩
/-- an owned list's item at a place -/
def gSetAt {α : Type} (l : List α) (x : α × Int) : Option (List α) := (ixN l.length x.2).map fun j => l.set j x.1
theorem ss_setat {i k : Nat} {te ti : TE} {tr : TS} {ma : M β β α} {mi : M β β Int} {get : β → List α} {put : β → List α → β} {mr : M β β2 (Fl γ ρ)} (hi : env[i]? = some (.own k)) (hg : ∀ b, (f b)[k]? = some (ovL K (get b))) (hp : ∀ b l, f (put b l) = (f b).set k (ovL K l))
    (ha : Es K te env f ma) (hx : Es K ti env f mi) (hr : Ss K tr env f f2 mr eN) :
    Ss K (tSeq (tAsg te (gSub (tVar i) ti rSetL)) tr) env f f2 (bd (bd ma fun x => bd mi fun y => mUpd get put gSetAt (x, y)) fun _ => mr) eN := by
  intro as σ F H b S o b' hm D q
  obtain ⟨_, b2, e2, hm⟩ := bd_some hm
  obtain ⟨x, b1, e1, e2⟩ := bd_some e2
  obtain ⟨y, b3, e5, e2⟩ := bd_some e2
  unfold mUpd at e2
  obtain ⟨l, e3, e4⟩ := Option.map_eq_some_iff.mp e2
  cases e4
  unfold gSetAt at e3
  obtain ⟨j, e6, rfl⟩ := Option.map_eq_some_iff.mp e3
  refine ha as σ F H b S x b1 e1 _ fun v F1 H1 n1 o1 r1 => ?_
  have S1 := S.step n1 o1
  obtain ⟨p0, h1', h2', _⟩ := S1.at_ hi (hg b1)
  refine ⟨.ref p0, h2', ?_⟩
  refine hx as σ F1 H1 b1 S1 y b3 e5 _ fun u F2 H2 n2 o2 r2 => ?_
  have S2 := S1.step n2 o2
  have r2 : u = .int y := r2
  subst r2
  obtain ⟨p, h1, h2, h3, h4, vs, h5, h6⟩ := S2.at_ hi (hg b3)
  have ep : p0 = p := by
    rw [h1'] at h1
    exact Option.some.inj h1
  subst ep
  have hl := h6.length
  refine ⟨p0, vs, y, j, rfl, rfl, h5, by rw [← hl]; exact e6, ?_⟩
  have n3 : Nx as F2 H2 F2 (upd H2 p0 (.lst (vs.set j v))) := Nx.mut n2.fh h4 h3
  have o3 := o2.put (o := .lst (vs.set j v)) (ow := ovL K ((get b3).set j x)) h1 ⟨_, upd_same, RpAll.setAt (Rep.mono n2.ff r1) _ h6⟩
  rw [← hp] at o3
  exact hr as σ F2 _ _ ⟨n3.fh, o3, S2.env⟩ o b' hm D (((q.step n1).step n2).step n3)
end
end Tw

/-! The package's own error: made (its __init__ says super().__init__(reason), then self.reason = reason), raised, its field read. -/
namespace PySem
namespace GeX
open PySem.W PySem.Calls PyProof.Rows PySem.HandSPX
/-- the text of its __init__ -/
def iB (p1 p2 p3 p4 p5 p6 q1 q2 q3 q4 : Pos) : List Stmt :=
  [.Expr (.Call (.Attribute (.Call (.Name "super" p1) [] [] p2) "__init__" p3) [.Name "reason" p4] [] p5) p6, .Assign [.Attribute (.Name "self" q1) "reason" q2] (.Name "reason" q3) q4]
def iA (r1 r2 : Pos) : Arguments := { posonlyargs := [], args := [{ arg := "self", annotation := none, pos := r1 }, { arg := "reason", annotation := none, pos := r2 }], vararg := none, kwonlyargs := [], kw_defaults := [], kwarg := none, defaults := [] }
def iS : Scope := { kind := .function, names := [("self", .local), ("reason", .local), ("__class__", .free), ("super", .globalImplicit)], isGenerator := false, isCoroutine := false, more := [] }
/-- the written places of super().__init__(reason) are such that the call's place is its own -/
def Plain (p1 p2 p3 p4 p5 : Pos) : Prop := ∃ pl : Env → Sem Bool, ∀ env : Env, eval (.Call (.Attribute (.Call (.Name "super" p1) [] [] p2) "__init__" p3) [.Name "reason" p4] [] p5) env = (do
      let ov ← attributeBase (.Call (.Name "super" p1) [] [] p2) "__init__" env (eval (.Call (.Name "super" p1) [] [] p2) env)
      standAt p3.atName
      let (f, first) ← holding [ov] (getMethod ov "__init__" (pl env))
      callWith p5 f first (backTo p5 (starEach [.Name "reason" p4] env)) [])
example : Plain ⟨5, 8, 5, 13⟩ ⟨5, 8, 5, 15⟩ ⟨5, 8, 5, 24⟩ ⟨5, 25, 5, 31⟩ ⟨5, 8, 5, 32⟩ := ⟨_, fun _ => rfl⟩
theorem own_size (v : Value) : [v].length ≤ sizeLine := by
  rw [sizeLine_eq]
  exact (by decide : 1 ≤ 16777216)
/-- what the written part says of the class at C and of its __init__ at fI -/
structure GeT (K : Frag) (P : Program) (C fI : Addr) : Prop where
  cls : ∃ nm q N bs bm sn sub ab col dd k0 k1 k2 k3 k5, K.lookup C = some (excClassObj nm q C N bs bm true sn sub ab col dd k0 k1 k2 k3 k5 "ValueError.__new__") ∧ refsVE bm = true ∧ alongIn K "__init__" bm = some (some (.builtin "ValueError.__init__"))
  sa : findIn K (.ref C) "__setattr__" = some (some (.builtin "object.__setattr__"))
  ga : findIn K (.ref C) "__getattribute__" = some (some (.builtin "BaseException.__getattribute__"))
  gg : findIn K (.ref C) "__getattr__" = some none
  noN : findIn K (.ref C) "reason" = some none
  iC : findIn K (.ref C) "__init__" = some (some (.ref fI))
  tC : typeIn K (.ref fI) = some (.type "function")
  kC : keepIn K (.ref C) = true
  exC : subIn K (.ref C) (.type "BaseException") = some true
  veC : subIn K (.ref C) (.type "ValueError") = some true
  tyC : typeIn K (.ref C) = some (.type "type")
  hdC : hasDictIn K C = true
  te : exmOne K (.ref C) (.ref C) = some true
  sup : nsIn K mainGlobals "super" = some none
  opq : nsIn K cStatics "thirdparty.any" = some none
  top : (P.main.scope.names.lookup ("super" : Str)).isSome = false
  sub : mroIn K C (.ref C) = some true
  fn : ∃ (oc : Value) (od : Option Addr) (kV doc pm : Value) (an : Option Addr) (ct : Value) (osl : Array (Option Value)) (p1 p2 p3 p4 p5 p6 q1 q2 q3 q4 : Pos) (r1 r2 : Pos) (cc cda : Addr),
    K.lookup fI = some ⟨oc, od, .func (ksFn "__init__" "GapsError.__init__" (iA r1 r2) (iB p1 p2 p3 p4 p5 p6 q1 q2 q3 q4) iS .none kV doc pm an (.ref cda) ct cc), osl⟩ ∧ codeIn K (.ref cda) "GapsError.__init__" = true ∧ Plain p1 p2 p3 p4 p5 ∧
    (∃ cl cld csl, K.lookup cc = some ⟨cl, cld, .cell (some (.ref C)), csl⟩) ∧
    (∃ ccl cdd vs ccs file tf, K.lookup cda = some ⟨ccl, cdd, .fields vs, ccs⟩ ∧ vs[2]? = some (.str file tf) ∧ ((P.main.file : Str) == file) = true)
/-- a made one -/
structure OwnMade (h h' : Heap) (e C d : Addr) (v : Value) : Prop where
  keep : ∀ b o, h.get? b = some o → h'.get? b = some o
  new : h.objs.size ≤ e
  obj : ∃ oe vs, h'.get? e = some oe ∧ oe.cls = .ref C ∧ oe.dict = some d ∧ oe.data = .fields vs ∧ vs[1]? = some .none
  dbig : h.objs.size ≤ d
  dne : d ≠ e
  ns : h'.Ns1 d (fun y => if y = "reason" then some v else none)
theorem kept_but {K : Frag} {h h' : Heap} {x : Addr} (X : K.In h) (hx : K.lookup x = none) (k : ∀ b o, b ≠ x → h.get? b = some o → h'.get? b = some o) : K.In h' := fun a o e =>
  k a o (fun z => by rw [z, hx] at e; cases e) (X a o e)
theorem drop_own (C : Addr) (l : List Value) : ((Value.ref C :: l).dropWhile (· != .ref C)).drop 1 = l := by
  simp [List.dropWhile_cons]
section
variable {prog : Program} {w : World} {A : Around} {E : Value → Shared → Prop} {R : Result → Shared → Prop} {s : Shared} {K : Frag} {C fI : Addr}
theorem ge_init (T : GeT K prog C fI) {x t0 : Addr} {v : Value} {mg mb : Str → Option Value} (X : K.In s.heap) (hlim : s.heap.NoLimit) (G : s.heap.Ns mainGlobals mg) (B : s.heap.Ns builtinsNs mb) (hB : mb "super" = bootBuiltins "super")
    (hx : s.heap.get? x = some (excO C t0)) (hnx : K.lookup x = none) (hroom : A.depth < recursionLimit)
    (hq : ∀ h' tk dx t1, (∀ b o, b ≠ x → s.heap.get? b = some o → h'.get? b = some o) → h'.get? x = some { cls := .ref C, dict := some dx, data := .fields #[.ref t1, .none, .none, .none, .bool false, .none] } → s.heap.objs.size ≤ dx → dx ≠ x →
      h'.Ns1 dx (fun y => if y = "reason" then some v else none) → R (.ok (.ret .none)) { s with heap := h', toks := tk }) :
    codeAny (model prog w) A (.call (.ref fI) ⟨[.ref x, v], []⟩) R s := by
  obtain ⟨oc, od, kV, doc, pm, an, ct, osl, p1, p2, p3, p4, p5, p6, q1, q2, q3, q4, r1, r2, cc, cda, ho, hcd, ⟨pl, hpl⟩, ⟨cl, cld, csl, hcell⟩, ⟨ccl, cdd, vs, ccs, file, tf, hcode, hvs, hfile⟩⟩ := T.fn
  obtain ⟨nm, q, N, bs, bm, sn, sub, ab, col, dd, k0, kk1, kk2, kk3, kk5, hC, hbm, hal⟩ := T.cls
  have hcl : clsIn K C = some { name := nm, bases := bs, mro := .ref C :: bm, ns := N, qualname := q, hasDict := true, slotNames := sn, subclasses := sub, abstract := ab, collection := col, hasDel := false } := by unfold clsIn; rw [hC] <;> rfl
  refine ks_codeAny_call_defAt (body := iB p1 p2 p3 p4 p5 p6 q1 q2 q3 q4) (binds := [("self", .ref x), ("reason", v)]) hroom (X _ _ ho) rfl hlim (codeRec_of X hcd) rfl (BindsTo.of_eq (by first | rfl | with_unfolding_all rfl)) (show ∀ x ∈ iS.names, x.2 ≠ .cell by decide) (fun y hy => ?_) (fun h₁ hns hk₁ => ?_) rfl rfl rfl
  · rcases List.mem_cons.mp hy with rfl | hy
    · rfl
    · rcases List.mem_cons.mp hy with rfl | hy
      · rfl
      · cases hy
  have X₁ : K.In h₁ := X.keeps hk₁
  have hx₁ := hk₁ _ _ hx
  have I₁ : InstAt h₁ x (excO C t0) C none := ⟨hx₁, rfl, rfl, trivial⟩
  obtain ⟨oD, hD1, hD2⟩ : ∃ oD : Obj, h₁.get? C = some oD ∧ oD.data = .cls { name := nm, bases := bs, mro := .ref C :: bm, ns := N, qualname := q, hasDict := true, slotNames := sn, subclasses := sub, abstract := ab, collection := col, hasDel := false } := ⟨_, X₁ _ _ hC, rfl⟩
  obtain ⟨hh, g, d, t, os⟩ := s
  refine ks_wpAt_execs_cons (ks_wpAt_Expr_any ?_)
  refine ks_wpAt_MethodCall ?_ (hpl _)
  refine ks_wpAt_super_base (ar := { arg := "self", annotation := none, pos := r1 }) rfl rfl (by decide) rfl (X₁ _ _ ho) rfl rfl rfl (X₁ _ _ hcode) rfl hvs hfile T.top ?_
  have mn : mg "super" = none := mg_none_of X G T.sup
  refine ks_loadName_global rfl rfl (loadGlobal_builtin (G.keeps hk₁) mn (B.keeps hk₁) (hB.trans (show bootBuiltins "super" = some (.type "super") from by decide +kernel)) ⟨rfl, ?_⟩)
  refine wpAny_loadName_free rfl rfl rfl ⟨_, X₁ _ _ hcell, rfl⟩ ?_
  refine wpAny_loadName_local rfl rfl hns (by first | rfl | with_unfolding_all rfl) ?_
  refine ks_wpAny_isType_cls hD1 hD2 ⟨rfl, ?_⟩
  refine ks_wpAny_call_super hD1 hD2 hx₁ rfl (fun c e => by cases e) (looks_mroIn X₁ T.sub) (fun h₂ so2 hk₂ => ?_)
  have X₂ : K.In h₂ := X₁.keeps hk₂
  have hns2 := hns.keeps hk₂
  have hx₂ := hk₂ _ _ hx₁
  have I₂ : InstAt h₂ x (excO C t0) C none := ⟨hx₂, rfl, rfl, trivial⟩
  refine kxs_getMethod kxs_ValueError so2 (looks_opaque X₂ T.opq) (l₀ := .ref C :: bm) (fun A Q E s k q => wpAny_bind ((looks_clsIn X₂ hcl) A _ E s k (wpAny_pure q))) (drop_own C bm) X₂ hal (I₂.type.andThen (looks_subIn X₂ T.veC)) (ks_ne X₁ I₁ hcl) (by decide) ?_
  have hk₃ : ∀ b o, h₂.get? b = some o → (h₂.push (kxs_mw "ValueError.__init__" x)).get? b = some o := fun b o e => Heap.get?_push_of_some _ e
  have hu : (h₂.push (kxs_mw "ValueError.__init__" x)).get? h₂.objs.size = some (kxs_mw "ValueError.__init__" x) := Heap.get?_push_at rfl rfl
  generalize hh3 : h₂.push (kxs_mw "ValueError.__init__" x) = h₃ at hk₃ hu ⊢
  have hx₃ := hk₃ _ _ hx₂
  have X₃ : K.In h₃ := X₂.keeps hk₃
  have hns3 := hns2.keeps hk₃
  refine kxs_callWith (i := "ValueError.__init__") (x := x) rfl (evalArgs_plain ?_)
  refine spliced_cons ?_
  refine wpAny_Name (wpAny_loadName_local rfl rfl hns3 (by first | rfl | with_unfolding_all rfl) ?_) (by decide)
  refine Calls.spliced_nil ⟨hu, ?_⟩
  refine wpAny_call (codeAny_of_tree ?_)
  show wpAny _ _ (callAny (.ref h₂.objs.size) ⟨[v], []⟩) _ _ _
  simp only [callAny]
  refine wpAny_bind (wpAny_load hu ?_)
  simp only [kxs_mw, show (Value.type "method-wrapper" == Value.type "method" || Value.type "method-wrapper" == Value.type "builtin_function_or_method" || Value.type "method-wrapper" == Value.type "method-wrapper") = true by decide, if_true]
  refine KFB.if_so (by decide) ?_
  refine wpAny_bind (check_bound_init F.excBase_ValueError.toExcCallFacts (X₃ _ _ hC) hx₃ rfl ?_)
  refine wpAny_bind (wpAny_pure (wpAny_pure ?_))
  refine ⟨plainId_quiet F.excBase_ValueError.init.plain _, codeAny_builtin F.excBase_ValueError.initEntry ?_⟩
  refine exc_init_tree (cls := .ref C) (t0 := t0) (dv := none) (c2 := .none) (c3 := .none) (b4 := .bool false) hx₃ (own_size v) (fun h₄ hk₄ hx₄ _ => ?_)
  have X₄ : K.In h₄ := kept_but X₃ hnx hk₄
  have hxL : hh.objs.size ≠ x := Nat.ne_of_gt (Heap.lt_size hx)
  have hns4 := hns3.at (fun o e => hk₄ _ o hxL e)
  -- self.reason = reason
  refine wpAt_of_wpAny ?_
  show wpAny _ _ (execs _ _) _ _ _
  refine wpAny_execs_cons (plainObj_wpAny_Assign_Attribute ?_)
  refine wpAny_Name (wpAny_loadName_local rfl rfl hns4 (by first | rfl | with_unfolding_all rfl) ?_) (by decide)
  refine wpAny_Name (wpAny_loadName_local rfl rfl hns4 (by first | rfl | with_unfolding_all rfl) ?_) (by decide)
  refine set_plain X₄ (ox := excO C h₃.objs.size) (od := none) ⟨hx₄, rfl, rfl, trivial⟩ T.sa ?_
  refine exc_osa X₄ hx₄ hcl (show refsVE (.ref C :: bm) = true from hbm) rfl T.noN (fun h₅ tk₅ dx k₅ dn dne hx₅ hn₅ => ?_)
  show wpAny _ _ (execs _ _) _ _ _
  exact wpAny_execs_nil (hq h₅ tk₅ dx _ (fun b o hb e => k₅ b o hb (hk₄ b o hb (hk₃ b o (hk₂ b o (hk₁ b o e))))) hx₅ (Nat.le_of_lt (Nat.lt_of_lt_of_le hns4.lt dn)) dne hn₅)
theorem ge_made (T : GeT K prog C fI) {v : Value} {mg mb : Str → Option Value} (X : K.In s.heap) (hlim : s.heap.NoLimit) (G : s.heap.Ns mainGlobals mg) (B : s.heap.Ns builtinsNs mb) (hB : mb "super" = bootBuiltins "super") (hroom : A.depth + 1 < recursionLimit)
    (hq : ∀ h' tk e d, OwnMade s.heap h' e C d v → R (.ok (.ret (.ref e))) { s with heap := h', toks := tk }) :
    codeAny (model prog w) A (.call (.ref C) ⟨[v], []⟩) R s := by
  obtain ⟨nm, q, N, bs, bm, sn, sub, ab, col, dd, k0, kk1, kk2, kk3, kk5, hC, hbm, hal⟩ := T.cls
  obtain ⟨hp, g, dr, tk, os⟩ := s
  have k : ∀ b o, hp.get? b = some o → ((hp.push (kdv_tup [v])).push (excO C hp.objs.size)).get? b = some o := fun b o e => Heap.get?_push_of_some _ (Heap.get?_push_of_some _ e)
  have hget : ((hp.push (kdv_tup [v])).push (excO C hp.objs.size)).get? (hp.objs.size + 1) = some (excO C hp.objs.size) := by heap_get
  have hnx : K.lookup (hp.objs.size + 1) = none := by
    cases e : K.lookup (hp.objs.size + 1) with
    | none => rfl
    | some o =>
      have z : hp.get? (hp.objs.size + 1) = some o := X _ _ e
      exact absurd (Nat.lt_of_succ_lt (Heap.lt_size z)) (Nat.lt_irrefl _)
  refine call_own F.excBase_ValueError (fun X => refsVE_contains X bm hbm) (X _ _ hC) (looks_findIn X T.iC) (fun self => bind_fn X self T.tC) (own_size v) ?_
  refine ge_init (s := ⟨(hp.push (kdv_tup [v])).push (excO C hp.objs.size), g, dr, tk, os⟩) T (X.keeps k) (hlim.keeps k) (G.keeps k) (B.keeps k) hB hget hnx ?_ fun h' tk' dx t1 k' hx dn dne hns => ?_
  · show A.depth + 1 < recursionLimit
    exact hroom
  · have old : ∀ b o, hp.get? b = some o → h'.get? b = some o := fun b o e => k' b o (Nat.ne_of_lt (Nat.lt_succ_of_lt (Heap.lt_size e))) (k b o e)
    have z : hp.objs.size + 1 + 1 ≤ dx := by
      first
        | (simpa only [Heap.size_push] using dn)
        | exact dn
        | (have q := dn; rw [Heap.size_push, Heap.size_push] at q; exact q)
    exact ⟨rfl, hq h' tk' (hp.objs.size + 1) dx ⟨old, Nat.le_succ _, ⟨_, _, hx, rfl, rfl, rfl, rfl⟩, Nat.le_trans (Nat.le_trans (Nat.le_succ _) (Nat.le_succ _)) z, dne, hns⟩⟩
end
end GeX
end PySem
namespace L2
open PySem PySem.Spec PyProof.Rows
/-- an error's own dict -/
def geX (v : V) : HO := .xd [(("reason" : Str), v)]
theorem relO_ge {v : V} {v' : Value} (r : RelV v v') (f : Str) : RelO (List.lookup f [(("reason" : Str), v)]) (if f = "reason" then some v' else none) := by
  by_cases hw : f = "reason"
  · subst hw
    rw [if_pos rfl]
    have q : List.lookup ("reason" : Str) [(("reason" : Str), v)] = some v := by simp [List.lookup]
    rw [q]
    exact r
  · rw [if_neg hw]
    have qw : (f == ("reason" : Str)) = false := by simpa using hw
    have q2 : List.lookup f [(("reason" : Str), v)] = none := by simp [List.lookup, qw]
    rw [q2]
    trivial
section
variable {X : Cx} {C fI : Addr}
/-- GapsError(e) -/
def tMkGe (C : Addr) (ta : TA) : St → Hp → XK → Prop := fun σ H Q => ta σ H fun vs H1 => ∃ v, vs = [v] ∧ ∀ d, H1 d = none → Q (.ref C) (some d) (upd H1 d (geX v))
theorem pmk_ge {a : Expr} {ta : TA} {p pos : Pos} {k : Nat} (T : PySem.GeX.GeT X.K X.prog C fI) (hm : X.mg "GapsError" = some (.ref C)) (hr : Room k X.A) (ha : PA X [a] ta) (hg : Gl X "GapsError" := by rfl)
    (he : starEach (a :: []) X.env = (false, eval a X.env) :: starEach [] X.env := by rfl) (hpl : (backTo pos (starEach [] X.env)).any (·.1) = false := by rfl) :
    PMk X (.Call (.Name "GapsError" p) [a] [] pos) (tMkGe C ta) := by
  intro pins s σ H Q I h
  refine wpAny_Call_Name_kw (ld_glob I hg hm ?_)
  refine PySem.W.callWith_K (h₀ := X.base) I.ok.mod.kin T.kC (thn (ha.run pos pins s σ H _ I h) fun us s1 hh => ?_) he hpl
  obtain ⟨vs, H1, I1, r1, v, ev, q1⟩ := hh
  subst ev
  refine ⟨I1.kIn, ?_⟩
  cases r1 with
  | cons rv rn =>
    rename_i v' us'
    cases rn
    show wpAny _ _ (call (.ref C) [v']) _ _ _
    have hlim := I1.nolimit
    have G := I1.mod.glob.keeps I1.bk
    obtain ⟨mb, hb1, hb2⟩ := I1.mod.blt
    have B := hb1.keeps I1.bk
    obtain ⟨hp, g, dr, tk, os⟩ := s1
    refine wpAny_call (PySem.GeX.ge_made T I1.kIn hlim G B (hb2 _ (by decide)) (by have := hr.dp; omega) fun h' tk' e d M => ?_)
    show MkP X pins σ Q (.ref e) ⟨h', g, dr, tk', os⟩
    obtain ⟨oe, fv, hoe, hc, hd, hdat, h1⟩ := M.obj
    have hns := M.ns
    obtain ⟨G', g1, g2⟩ := restrict h' fun b => decide (b ≠ e)
    have gk : ∀ b, b ≠ e → G'.get? b = h'.get? b := fun b hb => g1 b (decide_eq_true hb)
    have ge : G'.get? e = none := g2 e (by simp)
    have old : ∀ b o, hp.get? b = some o → G'.get? b = some o := fun b o q => (gk b (Nat.ne_of_lt (Nat.lt_of_lt_of_le (Heap.lt_size q) M.new))).trans (M.keep b o q)
    have ob : ObjOk X.prog X.w (upd H1 d (geX v)) G' d (geX v) :=
      ⟨_, hns.at (fun o q => (gk d M.dne).trans q), fun f => relO_ge rv f⟩
    have J : Inv X pins σ (upd H1 d (geX v)) ⟨G', g, dr, tk', os⟩ := I1.laid (t' := tk') old M.dbig ob
    refine ⟨e, oe, fv, ⟨G', g, dr, tk', os⟩, _, .ref C, some d, rfl, J, fun b o q => ?_, ge, hoe, ⟨hc, hd⟩, hdat, h1, ?_, rfl, I1.bare, raises_own T.exC T.tyC, q1 d (I1.hok.fresh M.dbig)⟩
    · by_cases hb : b = e
      · have q' : G'.get? b = some o := q
        rw [hb, ge] at q'; cases q'
      · exact (gk b hb).symm.trans q
    · rw [upd_ne (Ne.symm M.dne)]
      exact I1.hok.fresh M.new
/-- raise GapsError(e) -/
def tRaiseGe (C : Addr) (W : WX) (ta : TA) : TS := fun _ σ H => tMkGe C ta σ H fun cls d H' => W cls d σ H'
theorem ps_raiseGe {a : Expr} {ta : TA} {W : WX} {p pos pos2 : Pos} {k : Nat} (hc : X.calm = true) (T : PySem.GeX.GeT X.K X.prog C fI) (hm : X.mg "GapsError" = some (.ref C)) (hr : Room k X.A) (tk : Takes X W) (ha : PA X [a] ta) (hg : Gl X "GapsError" := by rfl)
    (he : starEach (a :: []) X.env = (false, eval a X.env) :: starEach [] X.env := by rfl) (hpl : (backTo pos (starEach [] X.env)).any (·.1) = false := by rfl) :
    PS X (.Raise (some (.Call (.Name "GapsError" p) [a] [] pos)) none pos2) (tRaiseGe C W ta) := ps_raise hc tk (pmk_ge T hm hr ha hg he hpl)
/-- e.reason, e the exception that the suite holds (at a; its class cls, its dict d) -/
def tReason (C : Addr) (a : Addr) (cls : Value) (d : Option Addr) (te : TE) : TE := fun σ H Q => te σ H fun x H1 => x = .ref a ∧ cls = .ref C ∧ ∃ (dd : Addr) (v : V), d = some dd ∧ H1 dd = some (geX v) ∧ Q v H1
theorem pe_reason {P : Program} {a : Addr} {oe : Obj} {cls : Value} {d : Option Addr} {pn : List (Addr × Obj)} {e : Expr} {te : TE} {pos : Pos} (T : PySem.GeX.GeT X.K P C fI) (hz : Zc cls d oe) (hf : ∃ vs, oe.data = .fields vs) (he : PE (X.suite a ((a, oe) :: pn)) e te)
    (hb : attributeBase e "reason" X.env (eval e X.env) = eval e X.env := by rfl) :
    PE (X.suite a ((a, oe) :: pn)) (.Attribute e "reason" pos) (tReason C a cls d te) := by
  refine ⟨fun pins s σ H Q I h => ?_⟩
  refine attr_of hb (thn (he.run pins s σ H _ I h) fun u s1 hh => ?_)
  obtain ⟨x, H1, I1, rx, ex, ec, dd, v, ed, ea, q⟩ := hh
  subst ex
  obtain rfl : u = Value.ref a := rx
  subst ec
  subst ed
  obtain ⟨ha, _⟩ := I1.pin (a, oe) (List.mem_append_left _ List.mem_cons_self)
  obtain ⟨vs, hd⟩ := hf
  have hx : ObjOk X.prog X.w H1 s1.heap dd (.xd [(("reason" : Str), v)]) := I1.hok dd _ ea
  obtain ⟨mA, hns, hr⟩ := hx
  obtain ⟨od, ho, hl⟩ := lookIn_ns hns
  have l : List.lookup ("reason" : Str) [(("reason" : Str), v)] = some v := by simp [List.lookup]
  obtain ⟨u, hu, ru⟩ := RelO.some_of (v := v) (o := mA "reason") (by rw [← l]; exact hr "reason")
  have J : PySem.W.InstAt s1.heap a oe C (some od) := ⟨ha, hz.1, by unfold PySem.W.notCls; rw [hd] <;> rfl, by rw [hz.2]; exact ho⟩
  exact HandSPX.exc_get I1.kIn J T.ga T.gg T.exC (PySem.W.findObj_own T.hdC T.noN rfl (by rw [hl, hu])) (handed_of ru) ⟨v, H1, I1.tok _, ru, q⟩
end
end L2

/-! Exceptions in the typed walk: a def that may raise the own error promises a Res. -/
namespace Tw
open PySem L2
inductive Res (α : Type) where
  | ok (x : α)
  | er (w : Tx)
def Res.map {α γ : Type} (g : α → γ) : Res α → Res γ
  | .ok x => .ok (g x)
  | .er w => .er w
section
variable {K : PySem.W.Frag}
def IsGe (K : PySem.W.Frag) (C : Addr) : Prop := PySem.W.nsIn K mainGlobals "GapsError" = some (some (.ref C))
theorem IsGe.eq {C C' : Addr} (h : IsGe K C) (h' : IsGe K C') : C' = C := by
  unfold IsGe at h h'
  rw [h] at h'
  cases h'
  rfl
/-- the error's dict lies at d -/
def GeAt (F : Hp) (d : Addr) (w : Tx) : Prop := F d = some (geX (.str (tS w)))
/-- the promise of a def that may raise -/
def spE (K : PySem.W.Frag) {α ρ βc : Type} [RepA K α] [Rep K ρ] (fc : βc → List OV) (mc : α → M βc βc (Res ρ)) : Sp := fun vs H Q E => ∃ (cs : List Addr) (dv : List V) (F : Hp) (b b' : βc) (x : α) (r : Res ρ), vs = cs.map V.ref ++ dv ∧ Ex F H ∧ OsOk cs (fc b) F H ∧ RepA.ra K F x dv ∧ mc x b = some (r, b') ∧
  match r with
  | .ok y => ∀ v F' H', Nx cs F H F' H' → OsOk cs (fc b') F' H' → Rep.rp K F' y v → Q v H'
  | .er w => ∀ C d F' H', IsGe K C → Nx cs F H F' H' → OsOk cs (fc b') F' H' → GeAt F' d w → E (.ref C) (some d) H'
theorem spE_len {α ρ βc : Type} [RepA K α] [Rep K ρ] {fc : βc → List OV} {mc : α → M βc βc (Res ρ)} {n : Nat} (h : ∀ b, (fc b).length + RepA.ar K α = n) : ∀ vs H Q E, spE K fc mc vs H Q E → vs.length = n := fun vs H Q E ⟨cs, dv, F, b, b', x, r, e, _, o, a, _⟩ => by
  rw [e, List.length_append, List.length_map, o.2.1, RepA.len a, h]
section
variable {β γ γ' ρ α δ : Type} [Rep K ρ] [Rep K α] [Rep K δ] {env : List Sl} {f : β → List OV} {eN : γ → List Sl} {eX : List Sl} {W : WX}
/-- what is wished of an error -/
def GPost (K : PySem.W.Frag) (as : List Addr) (f : β → List OV) (eX : List Sl) (F H : Hp) (W : WX) (w : Tx) (b' : β) : Prop :=
  ∀ (C d : Addr) (σ' : St) (F' H' : Hp), IsGe K C → Nx as F H F' H' → Stt as eX (f b') σ' F' H' → GeAt F' d w → W (.ref C) (some d) σ' H'
theorem GPost.step {as : List Addr} {F H F1 H1 : Hp} {w : Tx} {b' : β} (n : Nx as F H F1 H1) (q : GPost K as f eX F H W w b') : GPost K as f eX F1 H1 W w b' :=
  fun C d σ' F' H' h n' => q C d σ' F' H' h (n.trans n')
/-- a raising expression -/
def Er (K : PySem.W.Frag) {α : Type} [Rep K α] (W : WX) (te : TE) (env : List Sl) (f : β → List OV) (m : M β β (Res α)) : Prop :=
  ∀ (as : List Addr) (σ : St) (F H : Hp) (b : β), Stt as env (f b) σ F H → ∀ (r : Res α) (b' : β), m b = some (r, b') → ∀ Q : VK,
    (match r with
      | .ok x => ∀ v F' H', Nx as F H F' H' → OsOk as (f b') F' H' → Rep.rp K F' x v → Q v H'
      | .er w => ∀ C d F' H', IsGe K C → Nx as F H F' H' → OsOk as (f b') F' H' → GeAt F' d w → W (.ref C) (some d) σ H') → te σ H Q
def resOk {α : Type} (r : Res α) : M β β α := match r with
  | .ok x => pu x
  | .er _ => fun _ => none
theorem es_of_er {te : TE} {m : M β β (Res α)} (h : Er K W te env f m) : Es K te env f (bd m resOk) := by
  intro as σ F H b S x b' hm Q q
  obtain ⟨r, b1, e1, hm⟩ := bd_some hm
  refine h as σ F H b S r b1 e1 Q ?_
  cases r with
  | ok y =>
    have hm : (pu y : M β β α) b1 = some (x, b') := hm
    obtain ⟨rfl, rfl⟩ := pu_some hm
    exact q
  | er w => cases hm
theorem er_es {te : TE} {m : M β β α} (h : Es K te env f m) : Er K W te env f (bd m fun x => pu (.ok x)) := by
  intro as σ F H b S r b' hm Q q
  obtain ⟨x, b1, e1, hm⟩ := bd_some hm
  obtain ⟨rfl, rfl⟩ := pu_some hm
  exact h as σ F H b S x b1 e1 Q q
def mRes {β α γ : Type} (g : α → γ) (m : M β β (Res α)) : M β β (Res γ) := bd m fun r => pu (r.map g)
/-- [e] -/
theorem er_lst1 {te : TE} {m : M β β (Res α)} (h : Er K W te env f m) : Er K W (tLst (tCons te tNil)) env f (mRes (fun x => [x]) m) := by
  intro as σ F H b S r b' hm Q q
  obtain ⟨r1, b1, e1, hm⟩ := bd_some hm
  obtain ⟨rfl, rfl⟩ := pu_some hm
  refine h as σ F H b S r1 b1 e1 _ ?_
  cases r1 with
  | ok x =>
    intro v F1 H1 n1 o1 rv
    refine ⟨by show 1 ≤ sizeLine; rw [sizeLine_eq]; decide, fun p hp => ?_⟩
    have n2 := Nx.new (o := .lst [v]) n1.fh hp
    exact q _ _ _ (n1.trans n2.nil) (o1.step n2) ⟨p, [v], rfl, upd_same, Rep.mono n2.ff rv, trivial⟩
  | er w => exact q
/-- a raising argument list, no owned thing in it -/
def EaE (K : PySem.W.Frag) {α : Type} [RepA K α] (W : WX) (ta : TA) (env : List Sl) (f : β → List OV) (m : M β β (Res α)) : Prop :=
  ∀ (as : List Addr) (σ : St) (F H : Hp) (b : β), Stt as env (f b) σ F H → ∀ (r : Res α) (b' : β), m b = some (r, b') → ∀ Q : List V → Hp → Prop,
    (match r with
      | .ok x => ∀ vs F' H', Nx as F H F' H' → OsOk as (f b') F' H' → RepA.ra K F' x vs → Q vs H'
      | .er w => ∀ C d F' H', IsGe K C → Nx as F H F' H' → OsOk as (f b') F' H' → GeAt F' d w → W (.ref C) (some d) σ H') → ta σ H Q
/-- the first one may raise, the others do not -/
theorem eae_head {η : Type} [RepA K η] {te : TE} {tr : TA} {m : M β β (Res α)} {mr : M β β η} (h : Er K W te env f m) (hr : Ea K tr env f [] mr) :
    EaE K W (tCons te tr) env f (bd m fun r => match r with | .ok x => bd mr fun y => pu (.ok (x, y)) | .er w => pu (.er w)) := by
  intro as σ F H b S r b' hm Q q
  obtain ⟨r1, b1, e1, hm⟩ := bd_some hm
  refine h as σ F H b S r1 b1 e1 _ ?_
  cases r1 with
  | ok x =>
    have hm : (bd mr fun y => pu (Res.ok (x, y))) b1 = some (r, b') := hm
    obtain ⟨y, b2, e2, hm⟩ := bd_some hm
    obtain ⟨rfl, rfl⟩ := pu_some hm
    intro v F1 H1 n1 o1 rv
    refine hr as σ F1 H1 b1 (S.step n1 o1) y b2 e2 _ fun cs ws F2 H2 n2 o2 hl _ r2 => ?_
    have hcs : cs = [] := List.length_eq_zero_iff.mp hl
    subst hcs
    exact q (v :: ws) F2 H2 (n1.trans n2) o2 ⟨v, ws, rfl, Rep.mono n2.ff rv, r2⟩
  | er w =>
    have hm : (pu (Res.er w) : M β β (Res (α × η))) b1 = some (r, b') := hm
    obtain ⟨rfl, rfl⟩ := pu_some hm
    exact q
theorem eae_cons {η : Type} [RepA K η] {ta : TE} {tr : TA} {ma : M β β α} {mr : M β β (Res η)} (ha : Es K ta env f ma) (hr : EaE K W tr env f mr) :
    EaE K W (tCons ta tr) env f (bd ma fun x => mRes (fun y => (x, y)) mr) := by
  intro as σ F H b S r b' hm Q q
  obtain ⟨x, b1, e1, hm⟩ := bd_some hm
  obtain ⟨r1, b2, e2, hm⟩ := bd_some hm
  obtain ⟨rfl, rfl⟩ := pu_some hm
  refine ha as σ F H b S x b1 e1 _ fun v F1 H1 n1 o1 rv => ?_
  refine hr as σ F1 H1 b1 (S.step n1 o1) r1 b2 e2 _ ?_
  cases r1 with
  | ok y => exact fun ws F2 H2 n2 o2 r2 => q (v :: ws) F2 H2 (n1.trans n2) o2 ⟨v, ws, rfl, Rep.mono n2.ff rv, r2⟩
  | er w => exact fun C d F2 H2 hC n2 o2 g => q C d F2 H2 hC (n1.trans n2) o2 g
/-- a plain def called with a raising argument -/
theorem er_callA {α0 : Type} [RepA K α0] {mc : α0 → M Unit Unit ρ} {E : XK} {ta : TA} {ma : M β β (Res α0)} (ha : EaE K W ta env f ma) :
    Er K W (tCall (sp K f0 mc) [] E ta) env f (bd ma fun r => match r with | .ok x => bd (zoom (fun _ => ()) (fun b _ => b) (mc x)) fun y => pu (.ok y) | .er w => pu (.er w)) := by
  intro as σ F H b S r b' hm Q q
  obtain ⟨r1, b1, e1, hm⟩ := bd_some hm
  refine ha as σ F H b S r1 b1 e1 _ ?_
  cases r1 with
  | ok x =>
    have hm : (bd (zoom (fun _ => ()) (fun b _ => b) (mc x)) fun y => pu (Res.ok y)) b1 = some (r, b') := hm
    obtain ⟨y, b2, e2, hm⟩ := bd_some hm
    obtain ⟨rfl, rfl⟩ := pu_some hm
    unfold zoom at e2
    obtain ⟨⟨r', c'⟩, e3, e4⟩ := Option.map_eq_some_iff.mp e2
    cases e4
    intro vs F1 H1 n1 o1 ra
    show sp K f0 mc (vs ++ []) H1 Q E
    rw [List.append_nil]
    exact ⟨[], vs, F1, (), c', x, r', rfl, n1.fh, .nil, ra, e3, fun v F2 H2 n2 _ rv => q v F2 H2 (n1.trans n2.nil) (o1.step n2) rv⟩
  | er w =>
    have hm : (pu (Res.er w) : M β β (Res ρ)) b1 = some (r, b') := hm
    obtain ⟨rfl, rfl⟩ := pu_some hm
    exact q
/-- the list of three kinds, the first one may raise -/
theorem er_l3 {ta : TA} {ma : M β β (Res (α × δ × ρ × Unit))} (ha : EaE K W ta env f ma) : Er K W (tLst ta) env f (mRes mkL3 ma) := by
  intro as σ F H b S r b' hm Q q
  obtain ⟨r1, b1, e1, hm⟩ := bd_some hm
  obtain ⟨rfl, rfl⟩ := pu_some hm
  refine ha as σ F H b S r1 b1 e1 _ ?_
  cases r1 with
  | ok x =>
    obtain ⟨x, y, z, _⟩ := x
    intro vs F1 H1 n1 o1 ra
    obtain ⟨v, _, rfl, r1, w, _, rfl, r2, u, _, rfl, r3, rfl⟩ := ra
    refine ⟨by show 3 ≤ sizeLine; rw [sizeLine_eq]; decide, fun p hp => ?_⟩
    have n2 := Nx.new (o := .lst [v, w, u]) n1.fh hp
    exact q _ _ _ (n1.trans n2.nil) (o1.step n2) ⟨p, v, w, u, rfl, upd_same, Rep.mono n2.ff r1, Rep.mono n2.ff r2, Rep.mono n2.ff r3⟩
  | er w => exact q
end
end
end Tw

namespace Tw
open PySem L2
section
variable {K : PySem.W.Frag} {β : Type} {env : List Sl} {f : β → List OV} {W : WX}
/-- a def that may raise, called -/
theorem er_call {α ρ βc : Type} [RepA K α] [Rep K ρ] {fc : βc → List OV} {mc : α → M βc βc (Res ρ)} {get : β → βc} {put : β → βc → β} {ks : List Nat} {ta : TA} {ma : M β β α} (ha : Ea K ta env f ks ma)
    (hg : ∀ b, (fc (get b)).map some = ks.map fun k => (f b)[k]?) (hp : ∀ b c, f (put b c) = setAll (f b) ks (fc c)) (hk : ∀ c, (fc c).length = ks.length) (nd : ks.Nodup := by decide) :
    Er K W (tCallS (spE K fc mc) (WE W) ta) env f (bd ma fun x => zoom get put (mc x)) := by
  intro as σ F H b S r b' hm Q q
  obtain ⟨x, b1, e1, hm⟩ := bd_some hm
  unfold zoom at hm
  obtain ⟨⟨r', c'⟩, e2, e3⟩ := Option.map_eq_some_iff.mp hm
  cases e3
  refine ha as σ F H b S x b1 e1 _ fun cs vs F1 H1 n1 o1 hl hc ra => ?_
  have hcs : ∀ {i : Nat} {a : Addr}, cs[i]? = some a → ∃ k, ks[i]? = some k ∧ as[k]? = some a ∧ k < as.length := fun {i a} h => by
    have hi : i < ks.length := by rw [← hl]; exact (List.getElem?_eq_some_iff.mp h).1
    obtain ⟨z1, z2⟩ := hc i ks[i] (List.getElem?_eq_getElem hi)
    exact ⟨ks[i], List.getElem?_eq_getElem hi, by rw [← z1]; exact h, z2⟩
  have fget : ∀ {i k : Nat}, ks[i]? = some k → (fc (get b1))[i]? = (f b1)[k]? := fun {i k} h => by
    have := congrArg (fun l : List (Option OV) => l[i]?) (hg b1)
    simp only [List.getElem?_map, h, Option.map_some] at this
    cases e : (fc (get b1))[i]? with
    | none => rw [e] at this; cases this
    | some o => rw [e] at this; exact Option.some.inj this
  have ndc : cs.Nodup := by
    rw [List.nodup_iff_pairwise_ne, List.pairwise_iff_getElem]
    intro i j hi hj hij z
    obtain ⟨k1, a1, a2, a3⟩ := hcs (List.getElem?_eq_getElem hi)
    obtain ⟨k2, b1', b2', b3'⟩ := hcs (List.getElem?_eq_getElem hj)
    rw [z] at a2
    have ek : k1 = k2 := by
      have h1 := (List.getElem?_eq_some_iff.mp a2)
      have h2 := (List.getElem?_eq_some_iff.mp b2')
      obtain ⟨p1, q1⟩ := h1
      obtain ⟨p2, q2⟩ := h2
      exact (List.getElem_inj o1.1).mp (q1.trans q2.symm)
    subst ek
    have h1 := (List.getElem?_eq_some_iff.mp a1)
    have h2 := (List.getElem?_eq_some_iff.mp b1')
    obtain ⟨p1, q1⟩ := h1
    obtain ⟨p2, q2⟩ := h2
    exact absurd ((List.getElem_inj nd).mp (q1.trans q2.symm)) (by omega)
  have okc : OsOk cs (fc (get b1)) F1 H1 := ⟨ndc, by rw [hl, hk], fun i a o h1 h2 => by
    obtain ⟨k, a1, a2, a3⟩ := hcs h1
    rw [fget a1] at h2
    exact o1.2.2 k a o a2 h2⟩
  have fin : ∀ F2 H2, Nx cs F1 H1 F2 H2 → OsOk cs (fc c') F2 H2 → Nx as F H F2 H2 ∧ OsOk as (f (put b1 c')) F2 H2 := fun F2 H2 n2 o2 => by
    have sub : ∀ y ∈ cs, y ∈ as := fun y hy => by
      obtain ⟨i, hi⟩ := List.mem_iff_getElem?.mp hy
      obtain ⟨k, _, a2, _⟩ := hcs hi
      exact List.mem_of_getElem? a2
    refine ⟨n1.trans (n2.sub sub), ?_⟩
    rw [hp]
    refine ⟨o1.1, by rw [setAll_len]; exact o1.2.1, fun j a o h1 h2 => ?_⟩
    have hj : j < as.length := (List.getElem?_eq_some_iff.mp h1).1
    by_cases hm : j ∈ ks
    · obtain ⟨i, hi⟩ := List.mem_iff_getElem?.mp hm
      have hil : i < ks.length := (List.getElem?_eq_some_iff.mp hi).1
      rw [setAll_at nd hi (by rw [hk]; exact hil) (by rw [← o1.2.1]; exact hj)] at h2
      obtain ⟨z1, z2⟩ := hc i j hi
      exact o2.2.2 i a o (by rw [z1]; exact h1) h2
    · rw [setAll_get hm] at h2
      obtain ⟨h3, h4, h5⟩ := o1.2.2 j a o h1 h2
      have hna : a ∉ cs := fun hy => by
        obtain ⟨i, hi⟩ := List.mem_iff_getElem?.mp hy
        obtain ⟨k, a1, a2, a3⟩ := hcs hi
        have ek : k = j := by
          obtain ⟨p1, q1⟩ := List.getElem?_eq_some_iff.mp a2
          obtain ⟨p2, q2⟩ := List.getElem?_eq_some_iff.mp h1
          exact (List.getElem_inj o1.1).mp (q1.trans q2.symm)
        subst ek
        exact hm (List.mem_of_getElem? a1)
      refine ⟨(n2.old a hna h4).trans h3, n2.there a h4, o.stab n2.ff ?_ h5⟩
      cases e : H1 a with
      | none => exact absurd e h4
      | some u => exact n2.keep a u hna e
  show spE K fc mc (cs.map V.ref ++ vs) H1 Q (WE W σ)
  refine ⟨cs, vs, F1, get b1, c', x, r', rfl, n1.fh, okc, ra, e2, ?_⟩
  cases r' with
  | ok y => exact fun v F2 H2 n2 o2 rv => q v F2 H2 (fin F2 H2 n2 o2).1 (fin F2 H2 n2 o2).2 rv
  | er w => exact fun C d F2 H2 hC n2 o2 g => q C d F2 H2 hC (fin F2 H2 n2 o2).1 (fin F2 H2 n2 o2).2 g
end

/-! ### blocks that may raise -/
section
variable {K : PySem.W.Frag} {β γ γ' ρ α : Type} [Rep K ρ] [Rep K α] {env : List Sl} {f : β → List OV} {eN : γ → List Sl} {eX : List Sl} {W : WX}
def SEPost (K : PySem.W.Frag) {β γ ρ : Type} [Rep K ρ] (as : List Addr) (f : β → List OV) (eN : γ → List Sl) (eX : List Sl) (F H : Hp) (W : WX) (D : Ends) (o : Fl γ (Res ρ)) (b' : β) : Prop :=
  match o with
  | .rt (.er w) => GPost K as f eX F H W w b'
  | .rt (.ok r) => SPost K as f eN F H D (Fl.rt r : Fl γ ρ) b'
  | .nx g => SPost K as f eN F H D (Fl.nx g : Fl γ ρ) b'
  | .bk g => SPost K as f eN F H D (Fl.bk g : Fl γ ρ) b'
  | .ct g => SPost K as f eN F H D (Fl.ct g : Fl γ ρ) b'
def Se (K : PySem.W.Frag) {β γ ρ : Type} [Rep K ρ] (W : WX) (ts : TS) (env : List Sl) (f : β → List OV) (m : M β β (Fl γ (Res ρ))) (eN : γ → List Sl) (eX : List Sl) : Prop :=
  ∀ (as : List Addr) (σ : St) (F H : Hp) (b : β), Stt as env (f b) σ F H → ∀ (o : Fl γ (Res ρ)) (b' : β), m b = some (o, b') → ∀ D : Ends, SEPost K as f eN eX F H W D o b' → ts D σ H
theorem SEPost.step {as : List Addr} {F H F1 H1 : Hp} {D : Ends} {o : Fl γ (Res ρ)} {b' : β} (n : Nx as F H F1 H1) (q : SEPost K as f eN eX F H W D o b') : SEPost K as f eN eX F1 H1 W D o b' := by
  cases o with
  | nx g => exact SPost.step (K := K) (f2 := f) (eN := eN) (D := D) (o := (Fl.nx g : Fl γ ρ)) (b' := b') n q
  | bk g => exact SPost.step (K := K) (f2 := f) (eN := eN) (D := D) (o := (Fl.bk g : Fl γ ρ)) (b' := b') n q
  | ct g => exact SPost.step (K := K) (f2 := f) (eN := eN) (D := D) (o := (Fl.ct g : Fl γ ρ)) (b' := b') n q
  | rt r =>
    cases r with
    | ok y => exact SPost.step (K := K) (f2 := f) (eN := eN) (D := D) (o := (Fl.rt y : Fl γ ρ)) (b' := b') n q
    | er w => exact GPost.step n q
def flOk {γ ρ : Type} : Fl γ ρ → Fl γ (Res ρ)
  | .nx g => .nx g
  | .bk g => .bk g
  | .ct g => .ct g
  | .rt r => .rt (.ok r)
def mOk {γ ρ : Type} (m : M β β (Fl γ ρ)) : M β β (Fl γ (Res ρ)) := bd m fun o => pu (flOk o)
theorem se_ss {t : TS} {m : M β β (Fl γ ρ)} (h : Ss K t env f f m eN) : Se K W t env f (mOk m) eN eX := by
  intro as σ F H b S o b' hm D q
  obtain ⟨o1, b1, e1, hm⟩ := bd_some hm
  obtain ⟨rfl, rfl⟩ := pu_some hm
  refine h as σ F H b S o1 b1 e1 D ?_
  cases o1 <;> exact q
theorem se_last {t : TS} {m : M β β (Fl γ (Res ρ))} (h : Se K W t env f m eN eX) : Se K W (tSeq t tNext) env f m eN eX := by
  intro as σ F H b S o b' hm D q
  exact h as σ F H b S o b' hm _ q
theorem se_nx {g : γ} (h : EnvLe env (eN g)) : Se K W (ρ := ρ) tNext env f (pu (.nx g)) eN eX := by
  intro as σ F H b S o b' hm D q
  obtain ⟨rfl, rfl⟩ := pu_some hm
  exact q σ F H (.refl S.ex) (S.le h).take
/-- raise GapsError('..') -/
theorem se_raise {C : Addr} {s : Str} {w : Tx} (hC : IsGe K C) (hs : s.cps.toList = w) (hx : EnvLe env eX) : Se K W (ρ := ρ) (tRaiseGe C W (tCons (tC (.str s)) tNil)) env f (pu (.rt (.er w))) eN eX := by
  intro as σ F H b S o b' hm D q
  obtain ⟨rfl, rfl⟩ := pu_some hm
  refine ⟨.str s, rfl, fun d hd => ?_⟩
  have n := Nx.new (o := geX (.str s)) S.ex hd
  refine q C d σ _ _ hC n.nil ((S.step0 n).le hx) ?_
  show upd F d _ d = _
  rw [upd_same, ← hs, tS_of]
theorem se_if {c : TT} {t u : TS} {mc : M β β Bool} {ma mb : M β β (Fl γ (Res ρ))} (hc : Et c env f mc) (ha : Se K W t env f ma eN eX) (hb : Se K W u env f mb eN eX) : Se K W (tIfS c t u) env f (mIf mc ma mb) eN eX := by
  intro as σ F H b S o b' hm D q
  obtain ⟨x, b1, e1, hm⟩ := bd_some hm
  refine hc as σ F H b S x b1 e1 _ fun F1 H1 n1 o1 => ?_
  cases x with
  | true =>
    rw [if_pos rfl] at hm ⊢
    exact ha as σ F1 H1 b1 (S.step n1 o1) o b' hm D (q.step n1)
  | false =>
    rw [if_neg Bool.false_ne_true] at hm ⊢
    exact hb as σ F1 H1 b1 (S.step n1 o1) o b' hm D (q.step n1)
theorem se_asg {te : TE} {g : TG} {tr : TS} {ma : M β β α} {e' : α → List Sl} {mr : α → M β β (Fl γ (Res ρ))} (ha : Es K te env f ma) (hg : Tg K g env e') (hr : ∀ x, Se K W tr (e' x) f (mr x) eN eX) :
    Se K W (tSeq (tAsg te g) tr) env f (bd ma mr) eN eX := by
  intro as σ F H b S o b' hm D q
  obtain ⟨x, b1, e1, hm⟩ := bd_some hm
  refine ha as σ F H b S x b1 e1 _ fun v F1 H1 n1 o1 r1 => ?_
  refine hg as σ F1 H1 x v n1.fh (S.env.mono n1.ff) r1 _ fun σ' ok => ?_
  exact hr x as σ' F1 H1 b1 ⟨n1.fh, o1, ok⟩ o b' hm D (q.step n1)
def mErr {γ γ' ρ : Type} (m : M β β (Res α)) (k : α → M β β (Fl γ (Res ρ))) : M β β (Fl γ (Res ρ)) := bd m fun r => match r with
  | .ok x => k x
  | .er w => pu (.rt (.er w))
/-- a raising expression whose value is dropped; the rest -/
theorem se_drop {te : TE} {tr : TS} {ma : M β β (Res α)} {mr : α → M β β (Fl γ (Res ρ))} (ha : Er K W te env f ma) (hx : EnvLe env eX) (hr : ∀ x, Se K W tr env f (mr x) eN eX) :
    Se K W (tSeq (tDrop te) tr) env f (mErr (γ' := Unit) ma mr) eN eX := by
  intro as σ F H b S o b' hm D q
  obtain ⟨r, b1, e1, hm⟩ := bd_some hm
  refine ha as σ F H b S r b1 e1 _ ?_
  cases r with
  | ok x => exact fun v F1 H1 n1 o1 r1 => hr x as σ F1 H1 b1 (S.step n1 o1) o b' hm D (q.step n1)
  | er w =>
    obtain ⟨rfl, rfl⟩ := pu_some (show (pu (Fl.rt (Res.er w)) : M β β (Fl γ (Res ρ))) b1 = some (o, b') from hm)
    exact fun C d F1 H1 hC n1 o1 g => q C d σ F1 H1 hC n1 ((S.step n1 o1).le hx) g
/-- name = a raising expression; the rest -/
theorem se_asgE {te : TE} {g : TG} {tr : TS} {ma : M β β (Res α)} {e' : α → List Sl} {mr : α → M β β (Fl γ (Res ρ))} (ha : Er K W te env f ma) (hx : EnvLe env eX) (hg : Tg K g env e') (hr : ∀ x, Se K W tr (e' x) f (mr x) eN eX) :
    Se K W (tSeq (tAsg te g) tr) env f (mErr (γ' := Unit) ma mr) eN eX := by
  intro as σ F H b S o b' hm D q
  obtain ⟨r, b1, e1, hm⟩ := bd_some hm
  refine ha as σ F H b S r b1 e1 _ ?_
  cases r with
  | ok x =>
    intro v F1 H1 n1 o1 r1
    refine hg as σ F1 H1 x v n1.fh (S.env.mono n1.ff) r1 _ fun σ' ok => ?_
    exact hr x as σ' F1 H1 b1 ⟨n1.fh, o1, ok⟩ o b' hm D (q.step n1)
  | er w =>
    obtain ⟨rfl, rfl⟩ := pu_some (show (pu (Fl.rt (Res.er w)) : M β β (Fl γ (Res ρ))) b1 = some (o, b') from hm)
    exact fun C d F1 H1 hC n1 o1 g => q C d σ F1 H1 hC n1 ((S.step n1 o1).le hx) g
/-- return a raising expression -/
theorem se_ret {te : TE} {ma : M β β (Res ρ)} (ha : Er K W te env f ma) (hx : EnvLe env eX) : Se K W (tRet te) env f (bd ma fun r => pu (.rt r)) eN eX := by
  intro as σ F H b S o b' hm D q
  obtain ⟨r, b1, e1, hm⟩ := bd_some hm
  obtain ⟨rfl, rfl⟩ := pu_some hm
  refine ha as σ F H b S r b1 e1 _ ?_
  cases r with
  | ok x => exact fun v F1 H1 n1 o1 r1 => q v F1 H1 n1 o1.take r1
  | er w => exact fun C d F1 H1 hC n1 o1 g => q C d σ F1 H1 hC n1 ((S.step n1 o1).le hx) g
def mThenE {γ γ' ρ : Type} (m : M β β (Fl γ' (Res ρ))) (k : γ' → M β β (Fl γ (Res ρ))) : M β β (Fl γ (Res ρ)) := bd m fun o => match o with
  | .nx g => k g
  | .rt x => pu (.rt x)
  | _ => fun _ => none
theorem se_then {t tr : TS} {m : M β β (Fl γ' (Res ρ))} {e1 : γ' → List Sl} {k : γ' → M β β (Fl γ (Res ρ))} (h : Se K W t env f m e1 eX) (hr : ∀ g, Se K W tr (e1 g) f (k g) eN eX) (hl : SameLen f := by exact fun _ _ => rfl) :
    Se K W (tSeq t tr) env f (mThenE m k) eN eX := by
  intro as σ F H b S o b' hm D q
  obtain ⟨o1, b1, q1, hm⟩ := bd_some hm
  have el : as.take (f b1).length = as := List.take_of_length_le (by rw [hl b1 b]; exact Nat.le_of_eq S.os.2.1)
  refine h as σ F H b S o1 b1 q1 { D with nx := tr D } ?_
  cases o1 with
  | nx g =>
    intro σ' F' H' n' S'
    rw [el] at S'
    exact hr g as σ' F' H' b1 S' o b' hm D (q.step n')
  | rt x =>
    obtain ⟨rfl, rfl⟩ := pu_some (show (pu (Fl.rt x) : M β β (Fl γ (Res ρ))) b1 = some (o, b') from hm)
    cases x with
    | ok y => exact q
    | er w => exact q
  | bk g => cases hm
  | ct g => cases hm
def retE {γ ρ : Type} (m : M β β (Fl γ (Res ρ))) : M β β (Res ρ) := bd m fun o => match o with
  | .rt r => pu r
  | _ => fun _ => none
def retEU {γ : Type} (m : M β β (Fl γ (Res Unit))) : M β β (Res Unit) := bd m fun o => match o with
  | .rt r => pu r
  | .nx _ => pu (.ok ())
  | _ => fun _ => none
end
section
variable {K : PySem.W.Frag} {β γ ρ α : Type} [Rep K ρ] [Rep K α] {env : List Sl} {f : β → List OV} {eN : γ → List Sl} {eX : List Sl}
def mTryR {γ ρ : Type} (g : Tx → ρ) (m : M β β (Fl γ (Res ρ))) : M β β (Fl γ ρ) := bd m fun o => match o with
  | .rt (.ok r) => pu (.rt r)
  | .rt (.er w) => pu (.rt (g w))
  | .nx x => pu (.nx x)
  | .bk x => pu (.bk x)
  | .ct x => pu (.ct x)
/-- try: .. except GapsError as e: return e.reason -/
theorem ss_tryR {C : Addr} {i : Nat} {tb : WX → TS} {m : M β β (Fl γ (Res ρ))} {g : Tx → ρ} (hC : IsGe K C) (te : PySem.W.exmOne K (.ref C) (.ref C) = some true) (hc : Cast K g) (hi : i < env.length) (hl : eX.length = env.length)
    (hb : ∀ W, Se K W (tb W) env f m eN eX) :
    Ss K (fun D σ H => tb (wAs K (.ref C) i (fun a cls d => tSeq (tRet (tReason C a cls d (tVar i))) tNext) (fun _ _ _ _ => False) D) D σ H) env f f (mTryR g m) eN := by
  intro as σ F H b S o b' hm D q
  obtain ⟨o1, b1, e1, hm⟩ := bd_some hm
  refine hb _ as σ F H b S o1 b1 e1 D ?_
  cases o1 with
  | nx x => obtain ⟨rfl, rfl⟩ := pu_some (show (pu (Fl.nx x) : M β β (Fl γ ρ)) b1 = some (o, b') from hm); exact q
  | bk x => obtain ⟨rfl, rfl⟩ := pu_some (show (pu (Fl.bk x) : M β β (Fl γ ρ)) b1 = some (o, b') from hm); exact q
  | ct x => obtain ⟨rfl, rfl⟩ := pu_some (show (pu (Fl.ct x) : M β β (Fl γ ρ)) b1 = some (o, b') from hm); exact q
  | rt r =>
    cases r with
    | ok y => obtain ⟨rfl, rfl⟩ := pu_some (show (pu (Fl.rt y) : M β β (Fl γ ρ)) b1 = some (o, b') from hm); exact q
    | er w =>
      obtain ⟨rfl, rfl⟩ := pu_some (show (pu (Fl.rt (g w)) : M β β (Fl γ ρ)) b1 = some (o, b') from hm)
      intro C' d σ' F' H' hC' n' S' ge
      have e := hC.eq hC'
      subst e
      refine ⟨true, te, fun _ a ha => ?_, fun q => Bool.noConfusion q⟩
      have hlen : i < σ'.length := by rw [S'.env.1, hl]; exact hi
      refine ⟨.ref a, by rw [List.getElem?_set_self hlen], rfl, rfl, d, _, rfl, S'.ex _ _ ge, ?_⟩
      exact q _ F' H' n' S'.os.take (hc _ _ _ rfl)
def mTryO {γ ρ : Type} (m : M β β (Fl γ (Res ρ))) (h : M β β (Fl γ ρ)) : M β β (Fl γ ρ) := bd m fun o => match o with
  | .rt (.ok r) => pu (.rt r)
  | .rt (.er _) => h
  | .nx x => pu (.nx x)
  | .bk x => pu (.bk x)
  | .ct x => pu (.ct x)
/-- try: .. except GapsError: suite -/
theorem ss_tryO {C : Addr} {tb : WX → TS} {ts : TS} {m : M β β (Fl γ (Res ρ))} {mh : M β β (Fl γ ρ)} (hC : IsGe K C) (te : PySem.W.exmOne K (.ref C) (.ref C) = some true)
    (hb : ∀ W, Se K W (tb W) env f m eN eX) (hh : Ss K ts eX f f mh eN) :
    Ss K (fun D σ H => tb (wOnly K (.ref C) (fun _ _ _ => ts) (fun _ _ _ _ => False) D) D σ H) env f f (mTryO m mh) eN := by
  intro as σ F H b S o b' hm D q
  obtain ⟨o1, b1, e1, hm⟩ := bd_some hm
  refine hb _ as σ F H b S o1 b1 e1 D ?_
  cases o1 with
  | nx x => obtain ⟨rfl, rfl⟩ := pu_some (show (pu (Fl.nx x) : M β β (Fl γ ρ)) b1 = some (o, b') from hm); exact q
  | bk x => obtain ⟨rfl, rfl⟩ := pu_some (show (pu (Fl.bk x) : M β β (Fl γ ρ)) b1 = some (o, b') from hm); exact q
  | ct x => obtain ⟨rfl, rfl⟩ := pu_some (show (pu (Fl.ct x) : M β β (Fl γ ρ)) b1 = some (o, b') from hm); exact q
  | rt r =>
    cases r with
    | ok y => obtain ⟨rfl, rfl⟩ := pu_some (show (pu (Fl.rt y) : M β β (Fl γ ρ)) b1 = some (o, b') from hm); exact q
    | er w =>
      intro C' d σ' F' H' hC' n' S' ge
      have e := hC.eq hC'
      subst e
      refine ⟨true, te, fun _ a ha => ?_, fun q => Bool.noConfusion q⟩
      exact hh as σ' F' H' b1 S' o b' hm D (q.step n')
/-- a def's body that may raise -/
theorem run_bodyE {α0 βc : Type} [RepA K α0] {fc : βc → List OV} {mc : α0 → M βc βc (Res ρ)} {m : α0 → M βc βc (Fl γ (Res ρ))} {eN : α0 → γ → List Sl} {eX : α0 → List Sl} {t : TS} {N : List Str} {k : Nat} {vs : List V} {H : Hp} {Q : VK} {E : XK} (h : spE K fc mc vs H Q E) (hm : ∀ x, mc x = retE (m x))
    (n a : Nat) (hk : ∀ b, (fc b).length = k) (hN : N.length = n) (har : RepA.ar K α0 = a) (hn : k + a ≤ n) (hs : ∀ x, Se K (fun cls d _ H => E cls d H) t (env0 k (RepA.env K x) n) fc (m x) (eN x) (eX x)) : t { nx := fun _ H' => Q .non H', rt := Q } (L2.start N vs) H := by
  subst hN har
  obtain ⟨cs, dv, F, b, b', x, r, rfl, ex, os, ha, e, q⟩ := h
  have hc : cs.length = k := os.2.1.trans (hk b)
  rw [hm] at e
  obtain ⟨o, b1, e1, e2⟩ := bd_some e
  have ev := env0_ok (N := N) ha (by rw [hc]; exact hn)
  rw [hc] at ev
  refine hs x cs _ F H b ⟨ex, os, ev⟩ o b1 e1 _ ?_
  cases o with
  | rt r' =>
    obtain ⟨rfl, rfl⟩ := pu_some e2
    cases r' with
    | ok y =>
      intro v F' H' n o' rv
      rw [List.take_of_length_le (by rw [os.2.1, hk, hk]; exact Nat.le_refl _)] at o'
      exact q v F' H' n o' rv
    | er w => exact fun C d σ' F' H' hC n' S' g => q C d F' H' hC n' S'.os g
  | nx g => cases e2
  | bk g => cases e2
  | ct g => cases e2
theorem run_bodyEU {α0 βc : Type} [RepA K α0] {fc : βc → List OV} {mc : α0 → M βc βc (Res Unit)} {m : α0 → M βc βc (Fl γ (Res Unit))} {eN : α0 → γ → List Sl} {eX : α0 → List Sl} {t : TS} {N : List Str} {k : Nat} {vs : List V} {H : Hp} {Q : VK} {E : XK} (h : spE K fc mc vs H Q E) (hm : ∀ x, mc x = retEU (m x))
    (n a : Nat) (hk : ∀ b, (fc b).length = k) (hN : N.length = n) (har : RepA.ar K α0 = a) (hn : k + a ≤ n) (hs : ∀ x, Se K (fun cls d _ H => E cls d H) t (env0 k (RepA.env K x) n) fc (m x) (eN x) (eX x)) : t { nx := fun _ H' => Q .non H', rt := Q } (L2.start N vs) H := by
  subst hN har
  obtain ⟨cs, dv, F, b, b', x, r, rfl, ex, os, ha, e, q⟩ := h
  have hc : cs.length = k := os.2.1.trans (hk b)
  rw [hm] at e
  obtain ⟨o, b1, e1, e2⟩ := bd_some e
  have ev := env0_ok (N := N) ha (by rw [hc]; exact hn)
  rw [hc] at ev
  refine hs x cs _ F H b ⟨ex, os, ev⟩ o b1 e1 _ ?_
  cases o with
  | rt r' =>
    obtain ⟨rfl, rfl⟩ := pu_some e2
    cases r' with
    | ok y =>
      intro v F' H' n o' rv
      rw [List.take_of_length_le (by rw [os.2.1, hk, hk]; exact Nat.le_refl _)] at o'
      exact q v F' H' n o' rv
    | er w => exact fun C d σ' F' H' hC n' S' g => q C d F' H' hC n' S'.os g
  | nx g =>
    obtain ⟨rfl, rfl⟩ := pu_some e2
    intro σ' F' H' n S'
    have o' := S'.os
    rw [List.take_of_length_le (by rw [os.2.1, hk, hk]; exact Nat.le_refl _)] at o'
    exact q .non F' H' n o' rfl
  | bk g => cases e2
  | ct g => cases e2
end
end Tw


/-! Owned instances of the program's classes: fields that are put anew, methods, making. -/
namespace Tw
open PySem L2
structure ObC (K : PySem.W.Frag) (nm : Str) (fs : List Str) (C : Addr) : Prop where
  ns : PySem.W.nsIn K mainGlobals nm = some (some (.ref C))
  cl : Cls K C
  no : ∀ f ∈ fs, NoAttr K C f
theorem ObC.eq {K : PySem.W.Frag} {nm : Str} {fs : List Str} {C C' : Addr} (h : ObC K nm fs C) (h' : ObC K nm fs C') : C' = C := by
  have a := h.ns
  have b := h'.ns
  rw [a] at b
  cases b
  rfl
def ovOb (K : PySem.W.Frag) (nm : Str) (fs : List Str) {α : Type} [RepA K α] (x : α) : OV :=
  ⟨fun F H a => ∃ C dx vs, ObC K nm fs C ∧ H a = some (.ins C dx (fs.zip vs)) ∧ RepA.ra K F x vs, fun e h ⟨C, dx, vs, h1, h2, h3⟩ => ⟨C, dx, vs, h1, by rw [h]; exact h2, RepA.mono e h3⟩⟩
def fOb (K : PySem.W.Frag) (nm : Str) (fs : List Str) {α : Type} [RepA K α] : α → List OV := fun b => [ovOb K nm fs b]
def extO (K : PySem.W.Frag) (nm : Str) (fs : List Str) {β α : Type} [RepA K α] (f : β → List OV) : β × α → List OV := fun b => f b.1 ++ [ovOb K nm fs b.2]
/-- the field at place j of an object's state -/
def FldP (K : PySem.W.Frag) {α γ : Type} [RepA K α] [Rep K γ] (j : Nat) (pj : α → γ) (uj : α → γ → α) : Prop :=
  ∀ (F : Hp) (x : α) (vs : List V), RepA.ra K F x vs → (∃ v, vs[j]? = some v ∧ Rep.rp K F (pj x) v) ∧ ∀ (y : γ) (u : V), Rep.rp K F y u → RepA.ra K F (uj x y) (vs.set j u)
section
variable {K : PySem.W.Frag}
theorem fld0 {α η : Type} [Rep K α] [RepA K η] : FldP K (α := α × η) (γ := α) 0 (fun x => x.1) (fun x y => (y, x.2)) := fun F x vs ⟨v, ws, h1, h2, h3⟩ => by
  subst h1
  exact ⟨⟨v, rfl, h2⟩, fun y u hu => ⟨u, ws, rfl, hu, h3⟩⟩
theorem fldS {α η γ : Type} [Rep K α] [RepA K η] [Rep K γ] {j : Nat} {p : η → γ} {u : η → γ → η} (h : FldP K j p u) : FldP K (α := α × η) (γ := γ) (j + 1) (fun x => p x.2) (fun x y => (x.1, u x.2 y)) := fun F x vs ⟨v, ws, h1, h2, h3⟩ => by
  subst h1
  obtain ⟨h4, h5⟩ := h F x.2 ws h3
  exact ⟨by simpa using h4, fun y z hz => ⟨v, ws.set j z, rfl, h2, h5 y z hz⟩⟩
theorem lk_zip {fn : Str} {v : V} : ∀ {fs : List Str} {vs : List V} {j : Nat}, fs[j]? = some fn → (∀ i, i < j → fs[i]? ≠ some fn) → vs[j]? = some v → (fs.zip vs).lookup fn = some v
  | [], _, _, h, _, _ => by simp at h
  | _ :: _, [], _, _, _, h => by simp at h
  | g :: fs, u :: vs, 0, h, _, e => by
    have h' : g = fn := by simpa using h
    have e' : u = v := by simpa using e
    subst h'
    subst e'
    exact lkH
  | g :: fs, u :: vs, j + 1, h, n, e => by
    have ne : g ≠ fn := fun z => n 0 (Nat.zero_lt_succ _) (by simp [z])
    have b : (fn == g) = false := by simpa using fun z : fn = g => ne z.symm
    show ((g, u) :: fs.zip vs).lookup fn = some v
    rw [lkP b]
    exact lk_zip (by simpa using h) (fun i hi => by simpa using n (i + 1) (by omega)) (by simpa using e)
theorem putF_zip {fn : Str} {v : V} : ∀ {fs : List Str} {vs : List V} {j : Nat}, fs[j]? = some fn → (∀ i, i < j → fs[i]? ≠ some fn) → vs.length = fs.length → putF fn v (fs.zip vs) = fs.zip (vs.set j v)
  | [], _, _, h, _, _ => by simp at h
  | _ :: _, [], _, _, _, h => by simp at h
  | g :: fs, u :: vs, 0, h, _, _ => by
    have h' : g = fn := by simpa using h
    subst h'
    exact putHere
  | g :: fs, u :: vs, j + 1, h, n, e => by
    have ne : ¬ g = fn := fun z => n 0 (Nat.zero_lt_succ _) (by simp [z])
    show putF fn v ((g, u) :: fs.zip vs) = (g, u) :: fs.zip (vs.set j v)
    rw [putPast ne, putF_zip (by simpa using h) (fun i hi => by simpa using n (i + 1) (by omega)) (by simpa using e)]
theorem lk_none {fn : Str} : ∀ {fs : List Str} {vs : List V}, fn ∉ fs → (fs.zip vs).lookup fn = none
  | [], _, _ => rfl
  | _ :: _, [], _ => rfl
  | g :: fs, u :: vs, h => by
    have b : (fn == g) = false := by simpa using fun z : fn = g => h (by simp [z])
    show ((g, u) :: fs.zip vs).lookup fn = none
    rw [lkP b]
    exact lk_none fun m => h (List.mem_cons_of_mem _ m)
/-- the name's place among the fields -/
def FAt (fs : List Str) (j : Nat) (fn : Str) : Bool := decide (fs[j]? = some fn) && (List.range j).all fun i => decide (fs[i]? ≠ some fn)
theorem FAt.h1 {fs : List Str} {j : Nat} {fn : Str} (h : FAt fs j fn = true) : fs[j]? = some fn := by
  unfold FAt at h
  rw [Bool.and_eq_true] at h
  exact of_decide_eq_true h.1
theorem FAt.h2 {fs : List Str} {j : Nat} {fn : Str} (h : FAt fs j fn = true) (i : Nat) (hi : i < j) : fs[i]? ≠ some fn := by
  unfold FAt at h
  rw [Bool.and_eq_true] at h
  exact of_decide_eq_true (List.all_eq_true.mp h.2 i (List.mem_range.mpr hi))
variable {β β2 γ ρ α δ : Type} [RepA K α] [Rep K ρ] [Rep K δ] {env : List Sl} {f : β → List OV} {f2 : β2 → List OV} {eN : γ → List Sl} {nm : Str} {fs : List Str}
/-- self.f read -/
theorem es_fld {i k j : Nat} {fn : Str} {get : β → α} {pj : α → δ} {uj : α → δ → α} (hi : env[i]? = some (.own k)) (hg : ∀ b, (f b)[k]? = some (ovOb K nm fs (get b))) (hp : FldP K j pj uj) (hf : FAt fs j fn = true) :
    Es K (tFld K (tVar i) fn) env f (fun b => some (pj (get b), b)) := by
  intro as σ F H b S y b' hm Q q
  cases hm
  obtain ⟨p, h1, h2, h3, h4, C, dx, vs, hC, hH, hr⟩ := S.at_ hi (hg b)
  obtain ⟨⟨v, e1, e2⟩, _⟩ := hp F _ vs hr
  exact ⟨.ref p, h2, p, C, dx, _, v, rfl, hH, hC.cl, hC.no _ (List.mem_of_getElem? (FAt.h1 hf)), lk_zip (FAt.h1 hf) (FAt.h2 hf) e1, q v F H (.refl S.ex) S.os e2⟩
/-- self.f = e; the rest -/
theorem ss_put {i k j : Nat} {fn : Str} {te : TE} {tr : TS} {ma : M β β δ} {get : β → α} {put : β → α → β} {pj : α → δ} {uj : α → δ → α} {mr : M β β2 (Fl γ ρ)} (hi : env[i]? = some (.own k)) (hg : ∀ b, (f b)[k]? = some (ovOb K nm fs (get b))) (hpt : ∀ b l, f (put b l) = (f b).set k (ovOb K nm fs l))
    (hp : FldP K j pj uj) (hf : FAt fs j fn = true) (hl : RepA.ar K α = fs.length) (hs : fs.length < 1000) (ha : Es K te env f ma) (hr : Ss K tr env f f2 mr eN) :
    Ss K (tSeq (sFld K (tVar i) te fn) tr) env f f2 (bd (bd ma fun x => fun b => some ((), put b (uj (get b) x))) fun _ => mr) eN := by
  intro as σ F H b S o b' hm D q
  obtain ⟨_, b2, e2, hm⟩ := bd_some hm
  obtain ⟨x, b1, e1, e2⟩ := bd_some e2
  cases e2
  refine ha as σ F H b S x b1 e1 _ fun v F1 H1 n1 o1 r1 => ?_
  have S1 := S.step n1 o1
  obtain ⟨p, h1, h2, h3, h4, C, dx, vs, hC, hH, hr'⟩ := S1.at_ hi (hg b1)
  obtain ⟨_, hset⟩ := hp F1 _ vs hr'
  have hlen : vs.length = fs.length := (RepA.len hr').trans hl
  refine ⟨.ref p, h2, p, C, dx, _, rfl, hH, hC.cl, hC.no _ (List.mem_of_getElem? (FAt.h1 hf)), by rw [List.length_zip, hlen]; omega, ?_⟩
  rw [putF_zip (FAt.h1 hf) (FAt.h2 hf) hlen]
  have n2 : Nx as F1 H1 F1 (upd H1 p (.ins C dx (fs.zip (vs.set j v)))) := Nx.mut n1.fh h4 h3
  have o2 := o1.put (o := .ins C dx (fs.zip (vs.set j v))) (ow := ovOb K nm fs (uj (get b1) x)) h1 ⟨C, dx, _, hC, upd_same, hset x v r1⟩
  rw [← hpt] at o2
  exact hr as σ F1 _ _ ⟨n2.fh, o2, S1.env⟩ o b' hm D ((q.step n1).step n2)
theorem se_put {W : WX} {eX : List Sl} {i k j : Nat} {fn : Str} {te : TE} {tr : TS} {ma : M β β δ} {get : β → α} {put : β → α → β} {pj : α → δ} {uj : α → δ → α} {mr : M β β (Fl γ (Res ρ))} (hi : env[i]? = some (.own k)) (hg : ∀ b, (f b)[k]? = some (ovOb K nm fs (get b))) (hpt : ∀ b l, f (put b l) = (f b).set k (ovOb K nm fs l))
    (hp : FldP K j pj uj) (hf : FAt fs j fn = true) (hl : RepA.ar K α = fs.length) (hs : fs.length < 1000) (ha : Es K te env f ma) (hr : Se K W tr env f mr eN eX) :
    Se K W (tSeq (sFld K (tVar i) te fn) tr) env f (bd (bd ma fun x => fun b => some ((), put b (uj (get b) x))) fun _ => mr) eN eX := by
  intro as σ F H b S o b' hm D q
  obtain ⟨_, b2, e2, hm⟩ := bd_some hm
  obtain ⟨x, b1, e1, e2⟩ := bd_some e2
  cases e2
  refine ha as σ F H b S x b1 e1 _ fun v F1 H1 n1 o1 r1 => ?_
  have S1 := S.step n1 o1
  obtain ⟨p, h1, h2, h3, h4, C, dx, vs, hC, hH, hr'⟩ := S1.at_ hi (hg b1)
  obtain ⟨_, hset⟩ := hp F1 _ vs hr'
  have hlen : vs.length = fs.length := (RepA.len hr').trans hl
  refine ⟨.ref p, h2, p, C, dx, _, rfl, hH, hC.cl, hC.no _ (List.mem_of_getElem? (FAt.h1 hf)), by rw [List.length_zip, hlen]; omega, ?_⟩
  rw [putF_zip (FAt.h1 hf) (FAt.h2 hf) hlen]
  have n2 : Nx as F1 H1 F1 (upd H1 p (.ins C dx (fs.zip (vs.set j v)))) := Nx.mut n1.fh h4 h3
  have o2 := o1.put (o := .ins C dx (fs.zip (vs.set j v))) (ow := ovOb K nm fs (uj (get b1) x)) h1 ⟨C, dx, _, hC, upd_same, hset x v r1⟩
  rw [← hpt] at o2
  exact hr as σ F1 _ _ ⟨n2.fh, o2, S1.env⟩ o b' hm D ((q.step n1).step n2)
/-- o.m(..): its reading from that of a plain call with the object ahead -/
theorem es_meth {i k : Nat} {C : Addr} {m : Str} {sp : Sp} {E : XK} {t : TA} {get : β → α} {mm : M β β ρ} (hi : env[i]? = some (.own k)) (hg : ∀ b, (f b)[k]? = some (ovOb K nm fs (get b))) (hC : ObC K nm fs C) (hm : m ∉ fs) (h : Es K (tCall sp [] E (tCons (tVar i) t)) env f mm) :
    Es K (tMeth C m sp [] E (tVar i) t) env f mm := by
  intro as σ F H b S y b' e Q q
  obtain ⟨v, h1, h2⟩ := h as σ F H b S y b' e Q q
  obtain ⟨p, z1, z2, z3, z4, C', dx, vs, hC', hH, hr⟩ := S.at_ hi (hg b)
  have ec := hC.eq hC'
  subst ec
  have ev : v = .ref p := by
    rw [h1] at z2
    exact Option.some.inj (Option.some.inj z2)
  subst ev
  exact ⟨.ref p, h1, p, dx, _, rfl, hH, lk_none hm, h2⟩
def tMethE (C : Addr) (m : Str) (sp : Sp) (E : St → XK) (ta : TE) (t : TA) : TE := fun σ H Q => ta σ H fun x H1 => ∃ a dx fs, x = .ref a ∧ H1 a = some (.ins C dx fs) ∧ fs.lookup m = none ∧ t σ H1 fun vs H2 => sp (x :: vs) H2 Q (E σ)
theorem er_meth {W : WX} {i k : Nat} {C : Addr} {m : Str} {sp : Sp} {t : TA} {get : β → α} {mm : M β β (Res ρ)} (hi : env[i]? = some (.own k)) (hg : ∀ b, (f b)[k]? = some (ovOb K nm fs (get b))) (hC : ObC K nm fs C) (hm : m ∉ fs) (h : Er K W (tCallS sp (WE W) (tCons (tVar i) t)) env f mm) :
    Er K W (tMethE C m sp (WE W) (tVar i) t) env f mm := by
  intro as σ F H b S y b' e Q q
  obtain ⟨v, h1, h2⟩ := h as σ F H b S y b' e Q q
  obtain ⟨p, z1, z2, z3, z4, C', dx, vs, hC', hH, hr⟩ := S.at_ hi (hg b)
  have ec := hC.eq hC'
  subst ec
  have ev : v = .ref p := by
    rw [h1] at z2
    exact Option.some.inj (Option.some.inj z2)
  subst ev
  exact ⟨.ref p, h1, p, dx, _, rfl, hH, lk_none hm, h2⟩
/-- a block's end at which the last owned things are let go -/
theorem ss_nxD {g : γ} {j : β → β2} (hj : DropF f f2 j) (h : EnvLe env (eN g)) (hk : ∀ (b : β) (k i : Nat), (eN g)[i]? = some (.own k) → k < (f2 (j b)).length) : Ss K (ρ := ρ) tNext env f f2 (fun b => some (.nx g, j b)) eN := by
  intro as σ F H b S o b' hm D q
  cases hm
  have S1 := S.le h
  refine q σ F H (.refl S.ex) ⟨S.ex, hj.ok S.os, S1.env.1, fun i s e => ?_⟩
  have z := S1.env.2 i s e
  cases s with
  | un => trivial
  | dat p m => exact z
  | own k =>
    obtain ⟨a, z1, z2⟩ := z
    exact ⟨a, by rw [List.getElem?_take, if_pos (hk b k i e)]; exact z1, z2⟩
/-- the promise of __init__ -/
def spOb (K : PySem.W.Frag) (C : Addr) (fs : List Str) {α0 α : Type} [RepA K α0] [RepA K α] (mc : α0 → M Unit Unit α) : Sp := fun vs H Q _ => ∃ (p dx : Addr) (dv : List V) (F : Hp) (x : α0) (y : α), vs = .ref p :: dv ∧ H p = some (.ins C dx []) ∧ F p = none ∧ Ex F H ∧ RepA.ra K F x dv ∧ mc x () = some (y, ()) ∧
  ∀ F' H' ws, Nx [p] F H F' H' → F' p = none → H' p = some (.ins C dx (fs.zip ws)) → RepA.ra K F' y ws → Q .non H'
theorem OsOk.away {as cs : List Addr} {os : List OV} {F H F' H' : Hp} (ok : OsOk as os F H) (n : Nx cs F H F' H') (h : ∀ a ∈ as, a ∉ cs) : OsOk as os F' H' := by
  refine ⟨ok.1, ok.2.1, fun i a o ha ho => ?_⟩
  obtain ⟨h1, h2, h3⟩ := ok.2.2 i a o ha ho
  have hn := h a (List.mem_of_getElem? ha)
  refine ⟨(n.old a hn h2).trans h1, n.there a h2, o.stab n.ff ?_ h3⟩
  cases e : H a with
  | none => exact absurd e h2
  | some u => exact n.keep a u hn e
theorem OsOk.add {as : List Addr} {os : List OV} {F H : Hp} {p : Addr} {ow : OV} (o : OsOk as os F H) (hp : p ∉ as) (hF : F p = none) (hH : H p ≠ none) (h : ow.own F H p) : OsOk (as ++ [p]) (os ++ [ow]) F H := by
  refine ⟨?_, by rw [List.length_append, List.length_append, o.2.1]; rfl, fun j a v h1 h2 => ?_⟩
  · rw [List.nodup_append]
    exact ⟨o.1, by simp, fun x hx y hy => by
      have : y = p := by simpa using hy
      subst this
      exact fun z => hp (by rw [← z]; exact hx)⟩
  · by_cases hj : j < as.length
    · rw [List.getElem?_append_left hj] at h1
      rw [List.getElem?_append_left (by rw [← o.2.1]; exact hj)] at h2
      exact o.2.2 j a v h1 h2
    · rw [List.getElem?_append_right (by omega)] at h1
      rw [List.getElem?_append_right (by rw [← o.2.1]; omega)] at h2
      have hj0 : j - as.length = 0 := by
        have := (List.getElem?_eq_some_iff.mp h1).1
        simp at this
        omega
      rw [hj0] at h1
      rw [← o.2.1, hj0] at h2
      cases h1
      cases h2
      exact ⟨hF, hH, h⟩
/-- x = C(..): a new owned thing, the last of all; the rest -/
theorem ss_mk {α0 : Type} [RepA K α0] {i k : Nat} {C : Addr} {E : XK} {ta : TA} {tr : TS} {ma : M β β α0} {mc : α0 → M Unit Unit α} {mr : M (β × α) β2 (Fl γ ρ)} (hC : ObC K nm fs C) (ha : Ea K ta env f [] ma) (hk : ∀ b, (f b).length = k) (h2 : ∀ b, (f2 b).length ≤ k)
    (hr : Ss K tr (env.set i (.own k)) (extO K nm fs f) f2 mr eN) :
    Ss K (tSeq (tAsg (tMake C (spOb K C fs mc) [] E ta) (gName i)) tr) env f f2 (bd ma fun x => fun b => (mc x ()).bind fun r => mr (b, r.1)) eN := by
  intro as σ F0 H0 b0 S0 o b' hm D q0
  obtain ⟨x, b, e1, hm⟩ := bd_some hm
  obtain ⟨⟨y, _⟩, e2, hm⟩ := Option.bind_eq_some_iff.mp hm
  refine ha as σ F0 H0 b0 S0 x b e1 _ fun cs vs F H nn oo hl0 _ ra => ?_
  have hcs : cs = [] := List.length_eq_zero_iff.mp hl0
  subst hcs
  have S := S0.step nn oo
  have q := q0.step nn
  intro p dx hp hd hne
  have hpas := S.os.ne hp
  have hdas := S.os.ne hd
  have hF : F p = none := S.ex.none hp
  have hFd : F dx = none := S.ex.none hd
  have hl : as.length = k := S.os.2.1.trans (hk b)
  have n1 : Nx [] F H F (upd H dx (.own p)) := Nx.newO S.ex hd
  have hp1 : upd H dx (.own p) p = none := by rw [upd_ne (Ne.symm hne)]; exact hp
  have n2 : Nx [] F (upd H dx (.own p)) F (upd (upd H dx (.own p)) p (.ins C dx [])) := Nx.newO n1.fh hp1
  have o2 : OsOk as (f b) F (upd (upd H dx (.own p)) p (.ins C dx [])) := (S.os.mut hdas).mut hpas
  refine ⟨p, dx, vs, F, x, y, by rw [List.append_nil]; rfl, upd_same, hF, n2.fh, ra, e2, fun F3 H3 ws n3 hF3 hH3 ra3 => ⟨rfl, ?_⟩⟩
  have o3 : OsOk (as ++ [p]) (f b ++ [ovOb K nm fs y]) F3 H3 := (o2.away n3 fun a m z => hpas (by rw [← (show a = p by simpa using z)]; exact m)).add hpas hF3 (by rw [hH3]; exact fun z => nomatch z) ⟨C, dx, ws, hC, hH3, ra3⟩
  have ev := ((S.env.mono n3.ff).own (i := i) (p := p))
  rw [hl] at ev
  refine hr (as ++ [p]) _ F3 H3 (b, y) ⟨n3.fh, o3, ev⟩ o b' hm D ?_
  have back : ∀ {F' H'}, Nx (as ++ [p]) F3 H3 F' H' → Nx as F H F' H' := fun {F' H'} n => by
    have n12 := n1.trans n2
    have ne : ∀ a, H a ≠ none → a ≠ p := fun a h z => h (by rw [z]; exact hp)
    have m12 : ∀ a, H a ≠ none → a ∉ [p] := fun a h m => ne a h (by simpa using m)
    have t12 : ∀ a, H a ≠ none → (upd (upd H dx (.own p)) p (.ins C dx [])) a ≠ none := fun a h => n12.there a h
    refine ⟨n3.ff.trans n.ff, n.fh, fun a u h e => ?_, fun a m h => ?_, fun a h => n.there a (n3.there a (t12 a h))⟩
    · have hne' : H a ≠ none := by rw [e]; exact fun z => nomatch z
      refine n.keep a u (fun m => ?_) (n3.keep a u (m12 a hne') (n12.keep a u (fun m => nomatch m) e))
      rcases List.mem_append.mp m with z | z
      · exact h z
      · exact m12 a hne' z
    · have m' : a ∉ as ++ [p] := fun z => (List.mem_append.mp z).elim m (m12 a h)
      exact (n.old a m' (n3.there a (t12 a h))).trans (n3.old a (m12 a h) (t12 a h))
  have tk : ∀ b : β2, (as ++ [p]).take (f2 b).length = as.take (f2 b).length := fun b => List.take_append_of_le_length (by rw [hl]; exact h2 b)
  cases o with
  | nx g => exact fun σ' F' H' n' S' => q σ' F' H' (back n') (by rw [← tk]; exact S')
  | bk g => exact fun σ' F' H' n' S' => q σ' F' H' (back n') (by rw [← tk]; exact S')
  | ct g => exact fun σ' F' H' n' S' => q σ' F' H' (back n') (by rw [← tk]; exact S')
  | rt r => exact fun v F' H' n' o' => q v F' H' (back n') (by rw [← tk]; exact o')
end
end Tw

/-! __init__ of three fields; methods as defs; what the top has left of classes. -/
namespace Tw
open PySem L2
section
variable {K : PySem.W.Frag}
def ovIns (C dx : Addr) (l : List (Str × V)) : OV := ⟨fun _ H a => H a = some (.ins C dx l), fun _ h e => by rw [h]; exact e⟩
def fI (C dx : Addr) (l : List (Str × V)) : Unit → List OV := fun _ => [ovIns C dx l]
theorem put3 {n1 n2 n3 : Str} {v1 v2 v3 : V} (h12 : n1 ≠ n2) (h13 : n1 ≠ n3) (h23 : n2 ≠ n3) : putF n3 v3 (putF n2 v2 (putF n1 v1 [])) = ([n1, n2, n3] : List Str).zip [v1, v2, v3] := by
  show putF n3 v3 (putF n2 v2 [(n1, v1)]) = _
  rw [putPast h12]
  show putF n3 v3 [(n1, v1), (n2, v2)] = _
  rw [putPast h13, putPast h23]
  rfl
theorem len_put1 {n1 : Str} {v1 : V} : (putF n1 v1 []).length < 1000 := by
  show 1 < 1000
  decide
theorem len_put2 {n1 n2 : Str} {v1 v2 : V} (h12 : n1 ≠ n2) : (putF n2 v2 (putF n1 v1 [])).length < 1000 := by
  show (putF n2 v2 [(n1, v1)]).length < 1000
  rw [putPast h12]
  show 2 < 1000
  decide
theorem init3 {α0 a1 a2 a3 : Type} [RepA K α0] [Rep K a1] [Rep K a2] [Rep K a3] {nm n1 n2 n3 : Str} {C : Addr} {te1 te2 te3 : TE} {m1 : α0 → M Unit Unit a1} {m2 : α0 → M Unit Unit a2} {m3 : α0 → M Unit Unit a3} {N : List Str} {vs : List V} {H : Hp} {Q : VK} {E : XK}
    (hC : ObC K nm [n1, n2, n3] C) (h12 : n1 ≠ n2) (h13 : n1 ≠ n3) (h23 : n2 ≠ n3) (n a : Nat) (hN : N.length = n) (har : RepA.ar K α0 = a) (hn : 1 + a ≤ n)
    (he1 : ∀ x dx l, Es K te1 (env0 1 (RepA.env K x) n) (fI C dx l) (m1 x)) (he2 : ∀ x dx l, Es K te2 (env0 1 (RepA.env K x) n) (fI C dx l) (m2 x)) (he3 : ∀ x dx l, Es K te3 (env0 1 (RepA.env K x) n) (fI C dx l) (m3 x))
    (h : spOb K C [n1, n2, n3] (α := a1 × a2 × a3 × Unit) (fun x => bd (m1 x) fun y1 => bd (m2 x) fun y2 => bd (m3 x) fun y3 => pu (y1, y2, y3, ())) vs H Q E) :
    (tSeq (sFld K (tVar 0) te1 n1) (tSeq (sFld K (tVar 0) te2 n2) (sFld K (tVar 0) te3 n3))) { nx := fun _ H' => Q .non H', rt := Q } (L2.start N vs) H := by
  subst hN har
  obtain ⟨p, dx, dv, F, x, y, rfl, hp, hF, ex, ra, e, q⟩ := h
  obtain ⟨y1, _, e1, e⟩ := bd_some e
  obtain ⟨y2, _, e2, e⟩ := bd_some e
  obtain ⟨y3, _, e3, e⟩ := bd_some e
  obtain ⟨rfl, _⟩ := pu_some e
  have ev := env0_ok (cs := [p]) (N := N) ra hn
  have own : ∀ {F H : Hp} {l : List (Str × V)}, F p = none → H p = some (.ins C dx l) → OsOk [p] (fI C dx l ()) F H := fun {F H l} h1 h2 => ⟨by simp, rfl, fun i a o ha ho => by
    cases i with
    | zero =>
      cases ha
      cases ho
      exact ⟨h1, (by rw [h2]; exact nofun), h2⟩
    | succ i => simp at ha⟩
  have at0 : ∀ {F H : Hp} {l : List (Str × V)}, OsOk [p] (fI C dx l ()) F H → F p = none ∧ H p = some (.ins C dx l) := fun {F H l} o => by
    obtain ⟨z1, _, z3⟩ := o.2.2 0 p _ rfl rfl
    exact ⟨z1, z3⟩
  have slf : ∀ {F : Hp}, EnvOk [p] (env0 1 (RepA.env K x) N.length) (L2.start N ([p].map V.ref ++ dv)) F → (L2.start N ([p].map V.ref ++ dv))[0]? = some (some (.ref p)) := fun {F} ev => by
    rfl
  refine he1 x dx [] [p] _ F H () ⟨ex, own hF hp, ev⟩ y1 _ e1 _ fun v1 F1 H1 k1 o1 r1 => ?_
  obtain ⟨f1, g1⟩ := at0 o1
  refine ⟨.ref p, rfl, p, C, dx, [], rfl, g1, hC.cl, hC.no _ (by simp), by decide, ?_⟩
  have k2 : Nx [p] F1 H1 F1 (upd H1 p (.ins C dx (putF n1 v1 []))) := Nx.mut k1.fh (by simp) f1
  refine he2 x dx _ [p] _ F1 _ () ⟨k2.fh, own f1 upd_same, ev.mono k1.ff⟩ y2 _ e2 _ fun v2 F2 H2 k3 o2 r2 => ?_
  obtain ⟨f2, g2⟩ := at0 o2
  refine ⟨.ref p, rfl, p, C, dx, _, rfl, g2, hC.cl, hC.no _ (by simp), len_put1, ?_⟩
  have k4 : Nx [p] F2 H2 F2 (upd H2 p (.ins C dx (putF n2 v2 (putF n1 v1 [])))) := Nx.mut k3.fh (by simp) f2
  have k12 := k1.trans k2
  have k14 := (k12.trans k3).trans k4
  refine he3 x dx _ [p] _ F2 _ () ⟨k4.fh, own f2 upd_same, ev.mono k14.ff⟩ y3 _ e3 _ fun v3 F3 H3 k5 o3 r3 => ?_
  obtain ⟨f3, g3⟩ := at0 o3
  refine ⟨.ref p, rfl, p, C, dx, _, rfl, g3, hC.cl, hC.no _ (by simp), len_put2 h12, ?_⟩
  have k6 : Nx [p] F3 H3 F3 (upd H3 p (.ins C dx (putF n3 v3 (putF n2 v2 (putF n1 v1 []))))) := Nx.mut k5.fh (by simp) f3
  refine q F3 _ [v1, v2, v3] ((k14.trans k5).trans k6) f3 (by rw [upd_same, put3 h12 h13 h23]) ?_
  exact ⟨v1, _, rfl, Rep.mono (k3.ff.trans k5.ff) r1, v2, _, rfl, Rep.mono k5.ff r2, v3, _, rfl, r3, rfl⟩
end
/-! ### methods as defs -/
/-- the text of a method -/
structure RawM (K : PySem.W.Frag) (cn : Str) (fs : List Str) (x qx : Str) (ps : List Str) (st : Stmt) : Prop where
  ex : ∃ C f fd, ObC K cn fs C ∧ Fun K x qx st f fd ∧ Meth K C x f ∧ Binds K fd ps []
structure DfM (P : Program) (w : World) (K : PySem.W.Frag) (mg : Str → Option Value) (base : Heap) (CX : CXT) (cn : Str) (fs : List Str) (x : Str) (k : Nat) (ps : List Str) (sp : Sp) : Prop where
  ex : ∃ C f fd, ObC K cn fs C ∧ FnOk P w K mg base CX k f fd ps sp ∧ Meth K C x f ∧ Binds K fd ps []
/-- a def of the module that may raise -/
structure DfE (P : Program) (w : World) (K : PySem.W.Frag) (mg : Str → Option Value) (base : Heap) (x : Str) (k : Nat) (ps : List Str) (sp : Sp) : Prop where
  ex : ∃ f fd, FnOk P w K mg base (L2.CX P w) k f fd ps sp ∧ mg x = some (.ref f) ∧ PySem.W.keepIn K (.ref f) = true ∧ Binds K fd ps []
/-- a class's making -/
structure DfI (P : Program) (w : World) (K : PySem.W.Frag) (mg : Str → Option Value) (base : Heap) (cn : Str) (fs : List Str) (k : Nat) (ps : List Str) (sp : Addr → Sp) : Prop where
  ex : ∃ C f fd, ObC K cn fs C ∧ Mk K C f ∧ FnOk P w K mg base CX0 k f fd ps (sp C) ∧ mg cn = some (.ref C) ∧ Binds K fd ps []
structure RawI (K : PySem.W.Frag) (mg : Str → Option Value) (cn : Str) (fs : List Str) (qx : Str) (ps : List Str) (st : Stmt) : Prop where
  ex : ∃ C f fd, ObC K cn fs C ∧ Mk K C f ∧ Fun K "__init__" qx st f fd ∧ mg cn = some (.ref C) ∧ Binds K fd ps []
/-- the own error -/
structure GeD (P : Program) (K : PySem.W.Frag) (mg : Str → Option Value) : Prop where
  ex : ∃ C fI, IsGe K C ∧ PySem.GeX.GeT K P C fI ∧ mg "GapsError" = some (.ref C)
section
variable {X : Cx} {CX : CXT} {k : Nat} {f C : Addr} {fd : FuncData} {ps : List Str} {sp : Sp} {E : St → XK} {m : Str} {p pos apos : Pos} {e o : Expr} {es : List Expr} {ta : TE} {t : TA}
/-- o.m(e, ..), a method that may raise -/
theorem pe_methE {pl : Sem Bool} (he : PE X o ta) (c : Cls X.K C) (hm : Meth X.K C m f) (F : FnOk X.prog X.w X.K X.mg X.base CX k f fd ps sp) (hr : Room k X.A) (hb : Binds X.K fd ps []) (hx : ∀ σ, PassesAt CX X σ (E σ)) (ha : PA X (e :: es) t)
    (hst : starEach (e :: es) X.env = (false, eval e X.env) :: starEach es X.env := by rfl) (hpl : (backTo pos (starEach es X.env)).any (·.1) = false := by rfl)
    (ht : eval (.Call (.Attribute o m apos) (e :: es) [] pos) X.env = (do
      let ov ← eval o X.env
      standAt apos.atName
      let (f, first) ← holding [ov] (getMethod ov m pl)
      callWith pos f first (backTo pos (starEach (e :: es) X.env)) (backToKw pos (keywordEach [] X.env))) := by rfl) :
    PE X (.Call (.Attribute o m apos) (e :: es) [] pos) (tMethE C m sp E ta t) := by
  refine ⟨fun pins s σ H Q I h => ?_⟩
  refine PySem.W.methodCall_KW (pl := pl) (thn (he.run pins s σ H _ I h) fun u s1 ⟨x, H1, I1, rx, a, dx, fs, ex, ea, l, q⟩ => ?_) ht
  subst ex
  obtain rfl : u = Value.ref a := rx
  refine getmeth_ok I1 ea c hm l ?_
  refine PySem.W.callWith_K (first := [.ref a]) (h₀ := X.base) I.ok.mod.kin hm.kp (thn (ha.run pos pins s1 σ H1 _ I1 q) fun us s2 ⟨vs, H2, I2, r, q2⟩ => ⟨I2.kIn, ?_⟩) hst hpl
  exact run_fnS (us := .ref a :: us) (vs := .ref a :: vs) F hr hb (hx σ) I2 (.cons rfl r) q2
theorem pe_methE0 {pl : Sem Bool} (he : PE X o ta) (c : Cls X.K C) (hm : Meth X.K C m f) (F : FnOk X.prog X.w X.K X.mg X.base CX k f fd ps sp) (hr : Room k X.A) (hb : Binds X.K fd ps []) (hx : ∀ σ, PassesAt CX X σ (E σ))
    (ht : eval (.Call (.Attribute o m apos) [] [] pos) X.env = (do
      let ov ← eval o X.env
      standAt apos.atName
      let (f, first) ← holding [ov] (getMethod ov m pl)
      callWith pos f first (backTo pos (starEach [] X.env)) (backToKw pos (keywordEach [] X.env))) := by rfl) :
    PE X (.Call (.Attribute o m apos) [] [] pos) (tMethE C m sp E ta tNil) := by
  refine ⟨fun pins s σ H Q I h => ?_⟩
  refine PySem.W.methodCall_KW (pl := pl) (thn (he.run pins s σ H _ I h) fun u s1 ⟨x, H1, I1, rx, a, dx, fs, ex, ea, l, q⟩ => ?_) ht
  subst ex
  obtain rfl : u = Value.ref a := rx
  refine getmeth_ok I1 ea c hm l ?_
  exact PySem.W.callWith_K0 (first := [.ref a]) I1.kIn hm.kp (run_fnS (us := [.ref a]) (vs := [.ref a]) F hr hb (hx σ) I1 (.cons rfl .nil) q)
end
end Tw

/-! What the top has left of the classes, put together. -/
namespace Tw
open PySem L2
section
variable {K : PySem.W.Frag} {h : Heap} {mg : Str → Option Value}
theorem obC_mk {nm : Str} {fs : List Str} {C : Addr} (aC : PySem.W.nsIn K mainGlobals nm = some (some (.ref C))) (pg : PySem.W.plainGet K C Str.empty = true) (hd : PySem.W.hasDictIn K C = true) (po : PySem.W.plainOver K C = true)
    (sa : PySem.W.findIn K (.ref C) "__setattr__" = some (some (.builtin "object.__setattr__"))) (no : ∀ f ∈ fs, NoAttr K C f) : ObC K nm fs C := ⟨aC, ⟨pg, hd, po, sa⟩, no⟩
theorem no3 {C : Addr} {n1 n2 n3 : Str} (h1 : PySem.W.findIn K (.ref C) n1 = some none) (h2 : PySem.W.findIn K (.ref C) n2 = some none) (h3 : PySem.W.findIn K (.ref C) n3 = some none) : ∀ f ∈ ([n1, n2, n3] : List Str), NoAttr K C f := by
  intro f hf
  simp only [List.mem_cons, List.not_mem_nil, or_false] at hf
  rcases hf with rfl | rfl | rfl
  · exact h1
  · exact h2
  · exact h3
theorem rawM_mk {cn : Str} {fs : List Str} {x qx : Str} {ps : List Str} {st : Stmt} {C f : Addr} {oc : Value} {od an : Option Addr} {osl : Array (Option Value)} {kV doc pm cdv ct : Value} (O : ObC K cn fs C)
    (hb : ∀ (kV doc pm : Value) (an : Option Addr) (cdv ct : Value) (us : List Value), us.length = ps.length → bindArgs (PySem.W.fnOf x qx (defArgs st) (defBody st) (defScope st) .none kV doc pm an cdv ct) ⟨us, []⟩ = pure (ps.zip us))
    (a1 : PySem.W.findIn K (.ref C) x = some (some (.ref f))) (i1 : PySem.W.isFn K (.ref f) = true)
    (l : K.lookup f = some ⟨oc, od, .func (PySem.W.fnOf x qx (defArgs st) (defBody st) (defScope st) .none kV doc pm an cdv ct), osl⟩) (c : PySem.W.codeIn K cdv qx = true) (k1 : PySem.W.keepIn K (.ref f) = true) : RawM K cn fs x qx ps st :=
  ⟨C, f, _, O, fun_mk l c k1, ⟨a1, i1, k1⟩, (fun_mk l c k1).binds hb⟩
theorem rawI_mk {cn : Str} {fs : List Str} {qx : Str} {ps : List Str} {st : Stmt} {C f : Addr} {oc : Value} {od an : Option Addr} {osl : Array (Option Value)} {kV doc pm cdv ct : Value} (X : K.In h) (G : h.Ns mainGlobals mg) (O : ObC K cn fs C)
    (hb : ∀ (kV doc pm : Value) (an : Option Addr) (cdv ct : Value) (us : List Value), us.length = ps.length → bindArgs (PySem.W.fnOf "__init__" qx (defArgs st) (defBody st) (defScope st) .none kV doc pm an cdv ct) ⟨us, []⟩ = pure (ps.zip us))
    (a1 : PySem.W.findIn K (.ref C) "__init__" = some (some (.ref f))) (i1 : PySem.W.isFn K (.ref f) = true)
    (l : K.lookup f = some ⟨oc, od, .func (PySem.W.fnOf "__init__" qx (defArgs st) (defBody st) (defScope st) .none kV doc pm an cdv ct), osl⟩) (c : PySem.W.codeIn K cdv qx = true) (k1 : PySem.W.keepIn K (.ref f) = true)
    (mk : PySem.W.makesIn K C = true) (kc : PySem.W.keepIn K (.ref C) = true) : RawI K mg cn fs qx ps st :=
  ⟨C, f, _, O, ⟨mk, a1, i1, kc⟩, fun_mk l c k1, PySem.W.mg_of X G O.ns, (fun_mk l c k1).binds hb⟩
/-- an error of the class at S is what «except S» names -/
theorem exm_self {S : Addr} (h1 : PySem.W.subIn K (.ref S) (.type "BaseException") = some true) (h2 : PySem.W.isClsIn K S = true) (h3 : PySem.W.typeIn K (.ref S) = some (.type "type")) (h4 : PySem.W.subIn K (.ref S) (.ref S) = some true) :
    PySem.W.exmOne K (.ref S) (.ref S) = some true := by
  have e1 : (PySem.W.subIn K (.ref S) (.type "BaseException") == some true) = true := by rw [h1] <;> rfl
  have e2 : ((PySem.W.clsIn K S).isSome && PySem.W.typeIn K (.ref S) == some (.type "type")) = true := by
    have h2' : (PySem.W.clsIn K S).isSome = true := h2
    rw [h2', h3] <;> rfl
  show (if (PySem.W.subIn K (.ref S) (.type "BaseException") == some true) = true then (if ((PySem.W.clsIn K S).isSome && PySem.W.typeIn K (.ref S) == some (.type "type")) = true then PySem.W.subIn K (.ref S) (.ref S) else none) else none) = some true
  rw [if_pos e1, if_pos e2]
  exact h4
open PySem.GeX in
theorem geD_mk {P : Program} {st : Stmt} {C fI N : Addr} {p1 p2 p3 p4 p5 p6 q1 q2 q3 q4 r1 r2 : Pos} {nm q : Str} {bs : List Value} {sn : List Str} {sub : List Value} {ab : Bool} {col : Option Bool} {dd : Option Addr} {m0 m1 m2 m3 m5 : Option Value}
    {oc kV doc pm ct cl ccl : Value} {od an cld cdd : Option Addr} {osl csl ccs : Array (Option Value)} {cc cda : Addr} {vs : Array Value} {file : Str} {tf : Tok}
    (X : K.In h) (G : h.Ns mainGlobals mg)
    (hA : defArgs st = iA r1 r2) (hB : defBody st = iB p1 p2 p3 p4 p5 p6 q1 q2 q3 q4) (hS : defScope st = iS) (hpl : Plain p1 p2 p3 p4 p5) (top : (P.main.scope.names.lookup ("super" : Str)).isSome = false)
    (aC : PySem.W.nsIn K mainGlobals "GapsError" = some (some (.ref C)))
    (xL : K.lookup C = some (excClassObj nm q C N bs [.type "ValueError", .type "Exception", .type "BaseException", .type "object"] true sn sub ab col dd m0 m1 m2 m3 m5 "ValueError.__new__"))
    (sa : PySem.W.findIn K (.ref C) "__setattr__" = some (some (.builtin "object.__setattr__"))) (ga : PySem.W.findIn K (.ref C) "__getattribute__" = some (some (.builtin "BaseException.__getattribute__"))) (gg : PySem.W.findIn K (.ref C) "__getattr__" = some none) (nb : PySem.W.findIn K (.ref C) "reason" = some none)
    (a1 : PySem.W.findIn K (.ref C) "__init__" = some (some (.ref fI))) (t1 : PySem.W.typeIn K (.ref fI) = some (.type "function"))
    (kC : PySem.W.keepIn K (.ref C) = true) (eC : PySem.W.subIn K (.ref C) (.type "BaseException") = some true) (vC : PySem.W.subIn K (.ref C) (.type "ValueError") = some true) (tC : PySem.W.typeIn K (.ref C) = some (.type "type")) (hC : PySem.W.hasDictIn K C = true) (iC : PySem.W.isClsIn K C = true) (sC : PySem.W.subIn K (.ref C) (.ref C) = some true)
    (sp : PySem.W.nsIn K mainGlobals "super" = some none) (oq : PySem.W.nsIn K cStatics "thirdparty.any" = some none) (mC : PySem.W.mroIn K C (.ref C) = some true)
    (l1 : K.lookup fI = some ⟨oc, od, .func (PySem.W.ksFn "__init__" "GapsError.__init__" (defArgs st) (defBody st) (defScope st) .none kV doc pm an (.ref cda) ct cc), osl⟩) (c1 : PySem.W.codeIn K (.ref cda) "GapsError.__init__" = true)
    (lc : K.lookup cc = some ⟨cl, cld, .cell (some (.ref C)), csl⟩) (lk : K.lookup cda = some ⟨ccl, cdd, .fields vs, ccs⟩) (hv : vs[2]? = some (.str file tf)) (hf : ((P.main.file : Str) == file) = true) : GeD P K mg := by
  rw [hA, hB, hS] at l1
  have T : GeT K P C fI := ⟨⟨nm, q, N, bs, _, sn, sub, ab, col, dd, m0, m1, m2, m3, m5, xL, by decide +kernel, by kernel_rfl⟩, sa, ga, gg, nb, a1, t1, kC, eC, vC, tC, hC, exm_self eC iC tC sC, sp, oq, top, mC,
    ⟨_, _, _, _, _, _, _, _, _, _, _, _, _, _, _, _, _, _, _, _, _, _, l1, c1, hpl, ⟨_, _, _, lc⟩, ⟨_, _, _, _, _, _, lk, hv, hf⟩⟩⟩
  exact ⟨C, fI, aC, T, PySem.W.mg_of X G aC⟩
end
end Tw

namespace Tw
open PySem L2
section
variable {K : PySem.W.Frag}
theorem er_cast {β α γ : Type} [Rep K α] [Rep K γ] {env : List Sl} {f : β → List OV} {W : WX} {g : α → γ} (hc : Cast K g) {te : TE} {m : M β β (Res α)} (h : Er K W te env f m) : Er K W te env f (mRes g m) := by
  intro as σ F H b S r b' hm Q q
  obtain ⟨r1, b1, e1, hm⟩ := bd_some hm
  obtain ⟨rfl, rfl⟩ := pu_some hm
  refine h as σ F H b S r1 b1 e1 Q ?_
  cases r1 with
  | ok x => exact fun v F1 H1 n1 o1 rv => q v F1 H1 n1 o1 (hc _ _ _ rv)
  | er w => exact q
def ownMax : List Sl → Nat
  | [] => 0
  | .own k :: r => max (k + 1) (ownMax r)
  | _ :: r => ownMax r
theorem ownMax_at : ∀ {env : List Sl} {i k : Nat}, env[i]? = some (.own k) → k < ownMax env
  | [], _, _, h => by simp at h
  | s :: r, 0, k, h => by
    have e : s = .own k := by simpa using h
    subst e
    show k < max (k + 1) _
    omega
  | s :: r, i + 1, k, h => by
    have := ownMax_at (env := r) (i := i) (k := k) (by simpa using h)
    cases s with
    | own j => show k < max (j + 1) (ownMax r); omega
    | un => exact this
    | dat p m => exact this
theorem ownOk {β β2 γ : Type} {f2 : β2 → List OV} {j : β → β2} {eN : γ → List Sl} {g : γ} {n : Nat} (h : ownMax (eN g) ≤ n) (hl : ∀ b, (f2 (j b)).length = n) : ∀ (b : β) (k i : Nat), (eN g)[i]? = some (.own k) → k < (f2 (j b)).length := fun b k i e => by
  rw [hl]
  exact Nat.lt_of_lt_of_le (ownMax_at e) h
theorem spOb_len {α0 α : Type} [RepA K α0] [RepA K α] {C : Addr} {fs : List Str} {mc : α0 → M Unit Unit α} {n : Nat} (h : 1 + RepA.ar K α0 = n) : ∀ vs H Q E, spOb K C fs mc vs H Q E → vs.length = n := fun vs H Q E ⟨p, dx, dv, F, x, y, e, _, _, _, a, _⟩ => by
  rw [e, List.length_cons, RepA.len a, ← h, Nat.add_comm]
end
end Tw

namespace Tw
open PySem L2
section
variable {K : PySem.W.Frag} {β : Type} {env : List Sl} {f : β → List OV}
theorem es_neg {te : TE} {m : M β β Int} (h : Es K te env f m) : Es K (tUn (rU fun i => .int (-i)) te) env f (mMap (fun x : Int => -x) m) := by
  intro as σ F H b S y b' hm Q q
  obtain ⟨x, b1, e1, hm⟩ := bd_some hm
  obtain ⟨rfl, rfl⟩ := pu_some hm
  exact h as σ F H b S x b1 e1 _ fun v F1 H1 n1 o1 r1 => ⟨x, r1, q _ F1 H1 n1 o1 rfl⟩
end
end Tw

/-! A comprehension within a comprehension's block. -/
namespace Tw
open PySem L2
theorem blkOk_in {X : Cx} {s : Shared} {H : Hp} {scope0 : Scope} {C : Addr} {cl : List (Str × Addr)} {fp : List Addr} {N : List Str} {sc0 scope : Scope} {own : List (Str × Nat)} (hN : X.N = N) (hs : X.env.scope = sc0) (h : blkC N (relS scope0 sc0) scope own = true) :
    BlkOk (X.blk s H scope0 (compEnvC scope0 cl C X.env) fp).N (X.blk s H scope0 (compEnvC scope0 cl C X.env) fp).env.scope scope own := by
  subst hN hs
  exact blkOk_by h
theorem pi_listK {X : Cx} {K : PySem.W.Frag} {tg l : Expr} {tl : TE} (hK : X.K = K) (hl : PE X l tl) : PI X tg l (iList K tl) := by
  subst hK
  exact pi_list hl
theorem pi_tupK {X : Cx} {K : PySem.W.Frag} {tg l : Expr} {tl : TE} (hK : X.K = K) (hl : PE X l tl) : PI X tg l (iTup K tl) := by
  subst hK
  exact pi_tup hl
theorem callLenQK {X : Cx} {K : PySem.W.Frag} (hK : X.K = K) : CallR X (.builtin "len") (rLenQ K) := by
  subst hK
  exact callLenQ
end Tw

/-! str of an int. -/
namespace Tw
open PySem L2
def strI (i : Int) : Tx := (Str.ofString (toString i)).cps.toList
theorem tS_strI (i : Int) : tS (strI i) = Str.ofString (toString i) := by
  unfold tS strI
  simp
def gStrI (x : Int × Unit) : Option Tx := if x.1.natAbs.log2 < 1920 then some (strI x.1) else none
def rStrN : List V → Hp → VK → Prop := fun xs H Q => ∃ i, xs = [.int i] ∧ i.natAbs.log2 < 1920 ∧ Q (.str (toString i)) H
theorem callStrI {X : Cx} : CallR X (.type "str") rStrN := call_str_int
section
variable {K : PySem.W.Frag}
theorem cl_strI : Cl K (α := Int × Unit) (γ := Tx) rStrN gStrI := fun F H x z vs ex e ra Q q => by
  unfold gStrI at e
  split at e
  · rename_i h
    cases e
    obtain ⟨v, _, rfl, r1, rfl⟩ := ra
    have r1' : v = .int x.1 := r1
    subst r1'
    refine ⟨x.1, rfl, h, q _ F H (.refl ex) ?_⟩
    show V.str _ = V.str (tS (strI x.1))
    rw [tS_strI]
  · cases e
end
end Tw

/-! try: .. except GapsError: suite, named. -/
namespace Tw
open PySem L2
def noW : WX := fun _ _ _ _ => False
def tTryO (K : PySem.W.Frag) (C : Addr) (tb : WX → TS) (ts : TS) : TS := fun D σ H => tb (wOnly K (.ref C) (fun _ _ _ => ts) noW D) D σ H
theorem ps_tryO {X : Cx} {K : PySem.W.Frag} {C : Addr} {x : Str} {body suite : List Stmt} {b₀ : Stmt} {np pos pos' : Pos} {tb : WX → TS} {ts : TS} (hK : X.K = K) (hs : X.stack = X.env :: X.outer) (hf : X.env.frame = some X.env.locals) (hc : Names X x (.ref C)) (tk : Takes X noW)
    (hb : ∀ (W : WX) (pn : List (Addr × Obj)) (xe : Value → Shared → Prop), Takes (X.tr pn xe) W → PassesOwn (model X.prog X.w) X.A X.env xe → PSs (X.tr pn xe) body (tb W))
    (hsu : ∀ (a : Addr) (oe : Obj) (cls : Value) (d : Option Addr) (pn : List (Addr × Obj)), Zc cls d oe → (∃ vs, oe.data = .fields vs) → PSs (X.suite a ((a, oe) :: pn)) (b₀ :: suite) ts) :
    PS X (.Try body [.ExceptHandler (some (.Name x np)) none (b₀ :: suite) pos'] [] [] pos) (tTryO K C tb ts) := by
  subst hK
  exact ps_try_only (ts := fun _ _ _ => ts) hs hf hc tk hb hsu
section
variable {K : PySem.W.Frag} {β γ ρ α : Type} [Rep K ρ] [Rep K α] {env : List Sl} {f : β → List OV} {eN : γ → List Sl} {eX : List Sl}
theorem ss_tryN {C : Addr} {tb : WX → TS} {ts : TS} {m : M β β (Fl γ (Res ρ))} {mh : M β β (Fl γ ρ)} (hC : IsGe K C) (te : PySem.W.exmOne K (.ref C) (.ref C) = some true)
    (hb : ∀ W, Se K W (tb W) env f m eN eX) (hh : Ss K ts eX f f mh eN) :
    Ss K (tTryO K C tb ts) env f f (mTryO m mh) eN := ss_tryO hC te hb hh
/-- a raising first argument and the rest; a plain def called with what may have been raised -/
def mHd {η : Type} (m : M β β (Res α)) (mr : M β β η) : M β β (Res (α × η)) := bd m fun r => match r with | .ok x => bd mr fun y => pu (.ok (x, y)) | .er w => pu (.er w)
def mCa {α0 ρ : Type} (ma : M β β (Res α0)) (mc : α0 → M Unit Unit ρ) : M β β (Res ρ) := bd ma fun r => match r with | .ok x => bd (zoom (fun _ => ()) (fun b _ => b) (mc x)) fun y => pu (.ok y) | .er w => pu (.er w)
theorem eae_hd {η : Type} [RepA K η] {W : WX} {te : TE} {tr : TA} {m : M β β (Res α)} {mr : M β β η} (h : Er K W te env f m) (hr : Ea K tr env f [] mr) :
    EaE K W (tCons te tr) env f (mHd m mr) := eae_head h hr
theorem er_ca {α0 : Type} [RepA K α0] {W : WX} {mc : α0 → M Unit Unit ρ} {E : XK} {ta : TA} {ma : M β β (Res α0)} (ha : EaE K W ta env f ma) :
    Er K W (tCall (sp K f0 mc) [] E ta) env f (mCa ma mc) := er_callA ha
end
end Tw

/-! Plain lemmas about the mirrors' language. -/
namespace Tw
open PySem L2
/-! the language's equations -/
section
variable {β β2 α γ γ' δ ρ : Type}
@[simp] theorem mThen_nx {j : β → β2} {g : γ'} {k : γ' → M β β2 (Fl γ ρ)} : mThen j (pu (.nx g)) k = k g := of_rfl rfl
@[simp] theorem mThen_rt {j : β → β2} {x : ρ} {k : γ' → M β β2 (Fl γ ρ)} : mThen j (pu (.rt x)) k = rtD j x := of_rfl rfl
@[simp] theorem rtD_id {x : ρ} : rtD (γ := γ) (fun b : β => b) x = pu (.rt x) := of_rfl rfl
@[simp] theorem mThen_ite {j : β → β2} {c : Prop} [Decidable c] {m m' : M β β (Fl γ' ρ)} {k : γ' → M β β2 (Fl γ ρ)} : mThen j (if c then m else m') k = if c then mThen j m k else mThen j m' k := by
  by_cases h : c
  · rw [if_pos h, if_pos h]
  · rw [if_neg h, if_neg h]
@[simp] theorem retM_rt {x : ρ} : retM (pu (β := β) (.rt x : Fl γ ρ)) = pu x := of_rfl rfl
@[simp] theorem retM_ite {c : Prop} [Decidable c] {m m' : M β β (Fl γ ρ)} : retM (if c then m else m') = if c then retM m else retM m' := by
  by_cases h : c
  · rw [if_pos h, if_pos h]
  · rw [if_neg h, if_neg h]
@[simp] theorem mIf_pu {c : Bool} {a b : M β β2 α} : mIf (pu c) a b = if c = true then a else b := of_rfl rfl
@[simp] theorem mOp_pu {g : α → γ → Option δ} {x : α} {y : γ} : mOp (β := β) g (pu x) (pu y) = ov (g x y) := of_rfl rfl
@[simp] theorem mMapO_pu {g : α → Option δ} {x : α} : mMapO (β := β) g (pu x) = ov (g x) := of_rfl rfl
@[simp] theorem mMap_pu {g : α → δ} {x : α} : mMap (β := β) g (pu x) = pu (g x) := of_rfl rfl
@[simp] theorem mCons_pu {x : α} {y : γ} : mCons (β := β) (pu x) (pu y) = pu (x, y) := of_rfl rfl
@[simp] theorem mConsL_pu {x : α} {y : List α} : mConsL (β := β) (pu x) (pu y) = pu (x :: y) := of_rfl rfl
@[simp] theorem mSl_pu {g : α → Option Int → Option Int → Option α} {x : α} {lo hi : Option Int} : mSl (β := β) g (pu x) (pu lo) (pu hi) = ov (g x lo hi) := of_rfl rfl
@[simp] theorem mAnd_pu {c : Bool} {m : M β β Bool} : mAnd (pu c) m = if c = true then m else pu false := of_rfl rfl
@[simp] theorem mOr_pu {c : Bool} {m : M β β Bool} : mOr (pu c) m = if c = true then pu true else m := of_rfl rfl
@[simp] theorem mNot_pu {c : Bool} : mNot (β := β) (pu c) = pu (!c) := of_rfl rfl
@[simp] theorem mRet_pu {x : α} : mRet (γ := γ) (β := β) (pu x) = pu (.rt x) := of_rfl rfl
@[simp] theorem mRetD_pu {j : β → β2} {x : α} : mRetD (γ := γ) j (pu x) = rtD j x := of_rfl rfl
@[simp] theorem frzM_ap {m : List α → M β β2 δ} {b : β} {l : List α} : frzM m (b, l) = m l b := of_rfl rfl
@[simp] theorem newM_ap {m : M (β × List α) β2 δ} {b : β} : newM m b = m (b, []) := of_rfl rfl
@[simp] theorem zoomU_pu {x : α} : zoom (fun _ : β => ()) (fun b _ => b) (pu x : M Unit Unit α) = pu x := of_rfl rfl
theorem bd_ap {β1 : Type} {m : M β β1 α} {k : α → M β1 β2 γ} {b : β} {x : α} {b1 : β1} (h : m b = some (x, b1)) : bd m k b = k x b1 := by
  unfold bd
  rw [h]
  rfl
end
/-! the computation ends, what holds of the state holds again -/
def Tot {β α : Type} (I : β → Prop) (m : M β β α) (Q : α → Prop) : Prop := ∀ b, I b → ∃ x b', m b = some (x, b') ∧ I b' ∧ Q x
section
variable {β α γ δ ρ : Type} {I : β → Prop}
theorem Tot.pu {x : α} {Q : α → Prop} (h : Q x) : Tot I (pu x) Q := fun b i => ⟨x, b, rfl, i, h⟩
theorem Tot.bd {m : M β β α} {k : α → M β β γ} {Q : α → Prop} {R : γ → Prop} (h : Tot I m Q) (hk : ∀ x, Q x → Tot I (k x) R) : Tot I (bd m k) R := fun b i => by
  obtain ⟨x, b1, e1, i1, q⟩ := h b i
  obtain ⟨y, b2, e2, i2, r⟩ := hk x q b1 i1
  exact ⟨y, b2, by unfold Tw.bd; rw [e1]; exact e2, i2, r⟩
theorem Tot.imp {m : M β β α} {Q R : α → Prop} (h : Tot I m Q) (hq : ∀ x, Q x → R x) : Tot I m R := fun b i => by
  obtain ⟨x, b1, e1, i1, q⟩ := h b i
  exact ⟨x, b1, e1, i1, hq x q⟩
theorem Tot.ite {c : Prop} [Decidable c] {m m' : M β β α} {Q : α → Prop} (h : c → Tot I m Q) (h' : ¬ c → Tot I m' Q) : Tot I (if c then m else m') Q := by
  by_cases hc : c
  · rw [if_pos hc]; exact h hc
  · rw [if_neg hc]; exact h' hc
theorem Tot.loop {body : γ → α → M β β (Fl γ ρ)} {J : γ → Prop} : ∀ {xs : List α} {c : γ}, J c → (∀ c, J c → ∀ x ∈ xs, Tot I (body c x) fun o => ∃ c', o = .nx c' ∧ J c') → Tot I (loopM body xs c) fun o => ∃ c', o = .nx c' ∧ J c'
  | [], c, j, _ => .pu ⟨c, rfl, j⟩
  | x :: xs, c, j, h => by
    refine .bd (h c j x List.mem_cons_self) fun o ⟨c', e, j'⟩ => ?_
    subst e
    exact Tot.loop j' fun c jc y hy => h c jc y (List.mem_cons_of_mem _ hy)
/-- a loop whose state is told by the part that is gone through -/
theorem Tot.loopI {body : γ → α → M β β (Fl γ ρ)} {J : List α → γ → Prop} : ∀ (xs pre : List α) {c : γ}, J pre c → (∀ (p : List α) (x : α) (r : List α) c, pre ++ xs = p ++ x :: r → J p c → Tot I (body c x) fun o => ∃ c', o = .nx c' ∧ J (p ++ [x]) c') → Tot I (loopM body xs c) fun o => ∃ c', o = .nx c' ∧ J (pre ++ xs) c'
  | [], pre, c, j, _ => .pu ⟨c, rfl, by rw [List.append_nil]; exact j⟩
  | x :: xs, pre, c, j, h => by
    refine .bd (h pre x xs c rfl j) fun o ⟨c', e, j'⟩ => ?_
    subst e
    have := Tot.loopI xs (pre ++ [x]) j' fun p y r c e2 jc => h p y r c (by rw [← e2]; simp) jc
    simpa using this
theorem Tot.comp {t : α → M β β Bool} {e : α → M β β γ} {Q : γ → Prop} : ∀ {xs : List α}, (∀ x ∈ xs, Tot I (t x) fun _ => True) → (∀ x ∈ xs, Tot I (e x) Q) → Tot I (compM t e xs) fun ys => ys.length ≤ xs.length ∧ ∀ y ∈ ys, Q y
  | [], _, _ => .pu ⟨Nat.le_refl _, fun _ h => nomatch h⟩
  | x :: xs, h1, h2 => by
    have ih := Tot.comp (xs := xs) (fun y hy => h1 y (List.mem_cons_of_mem _ hy)) fun y hy => h2 y (List.mem_cons_of_mem _ hy)
    refine .bd (h1 x List.mem_cons_self) fun c _ => .ite (fun _ => ?_) fun _ => ?_
    · refine .bd (h2 x List.mem_cons_self) fun y hy => .bd ih fun ys ⟨h3, h4⟩ => .pu ⟨by simp only [List.length_cons]; omega, fun z hz => ?_⟩
      rcases List.mem_cons.mp hz with rfl | hz
      · exact hy
      · exact h4 z hz
    · exact ih.imp fun ys ⟨h3, h4⟩ => ⟨by simp only [List.length_cons]; omega, h4⟩
/-- all items are taken: the list's length is known -/
theorem Tot.map {e : α → M β β γ} {Q : γ → Prop} : ∀ {xs : List α}, (∀ x ∈ xs, Tot I (e x) Q) → Tot I (compM (fun _ => Tw.pu true) e xs) fun ys => ys.length = xs.length ∧ ∀ y ∈ ys, Q y
  | [], _ => .pu ⟨rfl, fun _ h => nomatch h⟩
  | x :: xs, h2 => by
    have ih := Tot.map (xs := xs) fun y hy => h2 y (List.mem_cons_of_mem _ hy)
    show Tot I (Tw.bd (e x) fun y => Tw.bd (compM (fun _ => Tw.pu true) e xs) fun ys => Tw.pu (y :: ys)) _
    refine .bd (h2 x List.mem_cons_self) fun y hy => .bd ih fun ys ⟨h3, h4⟩ => .pu ⟨by simp only [List.length_cons]; omega, fun z hz => ?_⟩
    rcases List.mem_cons.mp hz with rfl | hz
    · exact hy
    · exact h4 z hz
end
section
variable {β α γ δ : Type} {I : β → Prop}
theorem Tot.op {g : α → γ → Option δ} {ma : M β β α} {mb : M β β γ} {A : α → Prop} {B : γ → Prop} {R : δ → Prop} (ha : Tot I ma A) (hb : Tot I mb B) (h : ∀ x y, A x → B y → ∃ z, g x y = some z ∧ R z) : Tot I (mOp g ma mb) R := by
  unfold mOp
  refine .bd ha fun x hx => .bd hb fun y hy => ?_
  obtain ⟨z, e, r⟩ := h x y hx hy
  rw [e]
  exact .pu r
theorem Tot.mapO {g : α → Option δ} {ma : M β β α} {A : α → Prop} {R : δ → Prop} (ha : Tot I ma A) (h : ∀ x, A x → ∃ z, g x = some z ∧ R z) : Tot I (mMapO g ma) R := by
  unfold mMapO
  refine .bd ha fun x hx => ?_
  obtain ⟨z, e, r⟩ := h x hx
  rw [e]
  exact .pu r
theorem Tot.map_ {g : α → δ} {ma : M β β α} {A : α → Prop} {R : δ → Prop} (ha : Tot I ma A) (h : ∀ x, A x → R (g x)) : Tot I (mMap g ma) R := by
  unfold mMap
  exact .bd ha fun x hx => .pu (h x hx)
theorem Tot.cons {ma : M β β α} {mb : M β β γ} {A : α → Prop} {B : γ → Prop} {R : α × γ → Prop} (ha : Tot I ma A) (hb : Tot I mb B) (h : ∀ x y, A x → B y → R (x, y)) : Tot I (mCons ma mb) R := by
  unfold mCons
  exact .bd ha fun x hx => .bd hb fun y hy => .pu (h x y hx hy)
theorem Tot.one {ma : M β β α} {A : α → Prop} (ha : Tot I ma A) : Tot I (mCons ma (Tw.pu ())) fun z => A z.1 := .cons ha (.pu (Q := fun _ => True) trivial) fun _ _ h _ => h
theorem Tot.sl {g : α → Option Int → Option Int → Option α} {m : M β β α} {ml mh : M β β (Option Int)} {A : α → Prop} {B C : Option Int → Prop} {R : α → Prop} (ha : Tot I m A) (hb : Tot I ml B) (hc : Tot I mh C) (h : ∀ x lo hi, A x → B lo → C hi → ∃ z, g x lo hi = some z ∧ R z) : Tot I (mSl g m ml mh) R := by
  unfold mSl
  refine .bd ha fun x hx => .bd hb fun y hy => .bd hc fun z hz => ?_
  obtain ⟨w, e, r⟩ := h x y z hx hy hz
  rw [e]
  exact .pu r
theorem Tot.eq {x : α} : Tot I (Tw.pu x) fun y => y = x := .pu rfl
end
/-! triples -/
def Tri {β β2 α : Type} (P : β → Prop) (m : M β β2 α) (Q : α → β2 → Prop) : Prop := ∀ b, P b → ∃ x b', m b = some (x, b') ∧ Q x b'
section
variable {β β1 β2 α γ δ ρ : Type} {P : β → Prop}
theorem Tri.pu {x : α} {Q : α → β → Prop} (h : ∀ b, P b → Q x b) : Tri P (pu x) Q := fun b i => ⟨x, b, rfl, h b i⟩
theorem Tri.ov {o : Option α} {x : α} {Q : α → β → Prop} (e : o = some x) (h : ∀ b, P b → Q x b) : Tri P (ov o) Q := by
  rw [e]
  exact .pu h
theorem Tri.bd {m : M β β1 α} {k : α → M β1 β2 γ} {Q : α → β1 → Prop} {R : γ → β2 → Prop} (h : Tri P m Q) (hk : ∀ x, Tri (Q x) (k x) R) : Tri P (bd m k) R := fun b i => by
  obtain ⟨x, b1, e1, q⟩ := h b i
  obtain ⟨y, b2, e2, r⟩ := hk x b1 q
  exact ⟨y, b2, by unfold Tw.bd; rw [e1]; exact e2, r⟩
theorem Tri.imp {m : M β β2 α} {Q R : α → β2 → Prop} (h : Tri P m Q) (hq : ∀ x b, Q x b → R x b) : Tri P m R := fun b i => by
  obtain ⟨x, b1, e1, q⟩ := h b i
  exact ⟨x, b1, e1, hq x b1 q⟩
theorem Tri.pre {P' : β → Prop} {m : M β β2 α} {Q : α → β2 → Prop} (h : Tri P m Q) (hp : ∀ b, P' b → P b) : Tri P' m Q := fun b i => h b (hp b i)
theorem Tri.ite {c : Prop} [Decidable c] {m m' : M β β2 α} {Q : α → β2 → Prop} (h : c → Tri P m Q) (h' : ¬ c → Tri P m' Q) : Tri P (if c then m else m') Q := by
  by_cases hc : c
  · rw [if_pos hc]; exact h hc
  · rw [if_neg hc]; exact h' hc
/-- what is known of the state does not hang on it -/
theorem Tri.of {A : Prop} {m : M β β2 α} {Q : α → β2 → Prop} (h : ∀ b, P b → A) (k : A → Tri P m Q) : Tri P m Q := fun b i => k (h b i) b i
theorem Tri.loop {body : γ → α → M β β (Fl γ ρ)} {J : Nat → γ → β → Prop} : ∀ (xs : List α) (i : Nat) {c : γ}, (∀ (j : Nat) (c : γ) (x : α), xs[j]? = some x → Tri (J (i + j) c) (body c x) fun o b' => ∃ c', o = .nx c' ∧ J (i + j + 1) c' b') → Tri (J i c) (loopM body xs c) fun o b' => ∃ c', o = .nx c' ∧ J (i + xs.length) c' b'
  | [], i, c, _ => .pu fun b j => ⟨c, rfl, j⟩
  | x :: xs, i, c, h => by
    refine .bd (h 0 c x rfl) fun o => ?_
    intro b ⟨c', e, j⟩
    subst e
    have := Tri.loop (J := J) (body := body) xs (i + 1) (c := c') (fun j c y hy => by
      have := h (j + 1) c y (by simpa using hy)
      have e : i + (j + 1) = i + 1 + j := by omega
      rw [e] at this
      exact this) b j
    have e : i + 1 + xs.length = i + (x :: xs).length := by rw [List.length_cons]; omega
    rw [e] at this
    exact this
theorem Tri.upd {g : α → δ → Option α} {get : β → α} {put : β → α → β} {x : δ} {Q : Unit → β → Prop} (h : ∀ b, P b → ∃ l, g (get b) x = some l ∧ Q () (put b l)) : Tri P (mUpd get put g x) Q := fun b i => by
  obtain ⟨l, e, q⟩ := h b i
  exact ⟨(), put b l, by unfold mUpd; rw [e]; rfl, q⟩
theorem Tri.then {γ' : Type} {j : β → β2} {m : M β β (Fl γ' ρ)} {k : γ' → M β β2 (Fl γ ρ)} {J : γ' → β → Prop} {R : Fl γ ρ → β2 → Prop} (h : Tri P m fun o b' => ∃ c', o = .nx c' ∧ J c' b') (hk : ∀ g, Tri (J g) (k g) R) : Tri P (mThen j m k) R := fun b i => by
  obtain ⟨x, b1, e1, c', rfl, q⟩ := h b i
  obtain ⟨y, b2, e2, r⟩ := hk c' b1 q
  exact ⟨y, b2, by unfold mThen Tw.bd; rw [e1]; exact e2, r⟩
theorem Tri.newM {m : M (β × List α) β2 δ} {Q : δ → β2 → Prop} (h : Tri (fun b : β × List α => P b.1 ∧ b.2 = []) m Q) : Tri P (newM m) Q := fun b i => h (b, []) ⟨i, rfl⟩
theorem Tri.frzM {P : β × List α → Prop} {m : List α → M β β2 δ} {Q : δ → β2 → Prop} (h : ∀ l, Tri (fun b => P (b, l)) (m l) Q) : Tri P (frzM m) Q := fun b i => h b.2 b.1 i
theorem Tri.pure_ {m : M Unit Unit α} {Q : α → Prop} (h : Tri (fun _ : Unit => True) m fun x _ => Q x) : ∃ x, m = Tw.pu x ∧ Q x := by
  obtain ⟨x, b, e, q⟩ := h () trivial
  exact ⟨x, funext fun _ => e, q⟩
theorem Tri.retM {m : M β β (Fl γ ρ)} {Q : ρ → β → Prop} (h : Tri P m fun o b => ∃ r, o = .rt r ∧ Q r b) : Tri P (retM m) Q := fun b i => by
  obtain ⟨x, b1, e1, r, rfl, q⟩ := h b i
  exact ⟨r, b1, by unfold Tw.retM Tw.bd; rw [e1]; rfl, q⟩
theorem Tot.tri {I : β → Prop} {m : M β β α} {Q : α → Prop} (h : Tri I m fun x b => I b ∧ Q x) : Tot I m Q := fun b i => h b i
theorem Tot.then {I : β → Prop} {γ' : Type} {m : M β β (Fl γ' ρ)} {k : γ' → M β β (Fl γ ρ)} {J : γ' → Prop} {R : Fl γ ρ → Prop} (h : Tot I m fun o => ∃ c', o = .nx c' ∧ J c') (hk : ∀ g, J g → Tot I (k g) R) : Tot I (mThen (fun b => b) m k) R := fun b i => by
  obtain ⟨x, b1, e1, i1, c', rfl, q⟩ := h b i
  obtain ⟨y, b2, e2, r⟩ := hk c' q b1 i1
  exact ⟨y, b2, by unfold mThen Tw.bd; rw [e1]; exact e2, r⟩
end
/-! what is pure -/
section
variable {β α γ δ ρ : Type}
theorem zoom_id {m : M β β α} : zoom (fun b : β => b) (fun (b : β) (c : β) => c) m = m := by
  funext b
  unfold zoom
  cases m b <;> rfl
theorem zoom_pu {βc : Type} {get : β → βc} {put : β → βc → β} {x : α} (h : ∀ b, put b (get b) = b) : zoom get put (pu x) = pu x := by
  funext b
  show some (x, put b (get b)) = some (x, b)
  rw [h]
theorem loopM_pure {body : γ → α → M β β (Fl γ ρ)} {g : γ → α → γ} : ∀ {xs : List α} {c : γ}, (∀ c, ∀ x ∈ xs, body c x = pu (.nx (g c x))) → loopM body xs c = pu (.nx (xs.foldl g c))
  | [], c, _ => rfl
  | x :: xs, c, h => by
    show bd (body c x) _ = _
    rw [h c x List.mem_cons_self, bd_pu]
    exact loopM_pure fun c y hy => h c y (List.mem_cons_of_mem _ hy)
theorem compM_pure {t : α → M β β Bool} {e : α → M β β γ} {p : α → Bool} {g : α → γ} : ∀ {xs : List α}, (∀ x ∈ xs, t x = pu (p x)) → (∀ x ∈ xs, p x = true → e x = pu (g x)) → compM t e xs = pu ((xs.filter p).map g)
  | [], _, _ => rfl
  | x :: xs, h1, h2 => by
    show bd (t x) _ = _
    rw [h1 x List.mem_cons_self, bd_pu, compM_pure (fun y hy => h1 y (List.mem_cons_of_mem _ hy)) fun y hy => h2 y (List.mem_cons_of_mem _ hy)]
    cases hp : p x with
    | true =>
      rw [if_pos rfl, h2 x List.mem_cons_self hp, List.filter_cons_of_pos hp]
      rfl
    | false =>
      rw [if_neg Bool.false_ne_true, List.filter_cons_of_neg (by rw [hp]; exact Bool.false_ne_true)]
/-! slices -/
theorem sIx_some (n d : Nat) (i : Int) (h : 0 ≤ i) : HT.sIx n d (some i) = min i.toNat n := by
  show (if i < 0 then (i + (n : Int)).toNat else min i.toNat n) = _
  rw [if_neg (by omega)]
theorem cut_from {x : List α} {i : Int} (h : 0 ≤ i) : cut x (some i) none = x.drop i.toNat := by
  unfold cut
  rw [sIx_some _ _ _ h, HT.sIx_none]
  by_cases hi : i.toNat ≤ x.length
  · rw [Nat.min_eq_left hi]
    exact List.take_of_length_le (by rw [List.length_drop]; omega)
  · rw [Nat.min_eq_right (by omega), List.drop_of_length_le (show x.length ≤ i.toNat by omega), Nat.sub_self]
    rfl
theorem cut_to {x : List α} {i : Int} (h : 0 ≤ i) : cut x none (some i) = x.take i.toNat := by
  unfold cut
  rw [sIx_some _ _ _ h, HT.sIx_none, List.drop_zero, Nat.sub_zero]
  by_cases hi : i.toNat ≤ x.length
  · rw [Nat.min_eq_left hi]
  · rw [Nat.min_eq_right (by omega), List.take_of_length_le (Nat.le_refl _), List.take_of_length_le (by omega)]
theorem cut_mid {x : List α} {i j : Int} (h : 0 ≤ i) (h2 : 0 ≤ j) : cut x (some i) (some j) = (x.take j.toNat).drop i.toNat := by
  unfold cut
  rw [sIx_some _ _ _ h, sIx_some _ _ _ h2]
  apply List.ext_getElem?
  intro k
  rw [List.getElem?_take, List.getElem?_drop, List.getElem?_drop, List.getElem?_take]
  by_cases hk : i.toNat + k < x.length
  · have : min i.toNat x.length = i.toNat := by omega
    rw [this]
    by_cases hj : i.toNat + k < j.toNat
    · rw [if_pos hj, if_pos (by omega)]
    · rw [if_neg hj, if_neg (by omega)]
  · have e1 : x[i.toNat + k]? = none := List.getElem?_eq_none (by omega)
    have e2 : x[min i.toNat x.length + k]? = none ∨ ¬ k < min j.toNat x.length - min i.toNat x.length := by
      by_cases hi : i.toNat ≤ x.length
      · left
        rw [Nat.min_eq_left hi]
        exact e1
      · right
        omega
    rw [e1]
    rcases e2 with e2 | e2
    · rw [e2]; simp
    · rw [if_neg e2]; simp
theorem atI_of {xs : List α} {i : Int} {k : Nat} (h : i = (k : Int)) : atI xs i = xs[k]? := by
  subst h
  by_cases hk : k < xs.length
  · rw [atI_nat (List.getElem?_eq_getElem hk), List.getElem?_eq_getElem hk]
  · rw [List.getElem?_eq_none (by omega)]
    unfold atI ixN
    rw [if_pos (by omega), if_neg (by omega)]
    rfl
theorem ck62_ok {i : Int} (h : -(2 ^ 62) ≤ i ∧ i < 2 ^ 62) : ck62 i = some i := if_pos h
theorem mem_rangeI {lo hi x : Int} (h : x ∈ rangeI lo hi) : lo ≤ x ∧ x < hi := by
  unfold rangeI at h
  obtain ⟨k, hk, rfl⟩ := List.mem_map.mp h
  have := List.mem_range.mp hk
  omega
theorem rangeI_len {lo hi : Int} : (rangeI lo hi).length = (hi - lo).toNat := by simp [rangeI]
theorem rangeI_split {lo hi : Int} {p r : List Int} {x : Int} (h : rangeI lo hi = p ++ x :: r) : x = lo + (p.length : Int) ∧ lo + (p.length : Int) < hi := by
  have h1 : (rangeI lo hi)[p.length]? = some x := by rw [h]; simp
  have := rangeI_get h1
  omega
end
/-! the draws -/
def BxOk (b : Bx) : Prop := 0 ≤ b.2
end Tw

namespace My
open PySem L2 Tw
abbrev St_Document : Type := (List (Tx × Tx)) × (List (List (Tx × Tx))) × (List (List (Tx × Tx))) × Unit
abbrev fs_Document : List Str := ["now", "earlier", "undone"]
def mb_common (v_one : Tx) (v_two : Tx) : M Unit Unit (Fl Unit Int) :=
  bd (pu (0 : Int)) fun v_count_1 => mThen (fun b : Unit => b) (whileM (fun c2 : Int => mAnd (mOp (gB fun i j => decide (i < j)) (pu c2) (mMapO gMin2 ((mCons (mMapO gLenT ((mCons (pu v_one) (pu ())))) (mCons (mMapO gLenT ((mCons (pu v_two) (pu ())))) (pu ())))))) (mOp gEqS (mOp gIxS (pu v_one) (pu c2)) (mOp gIxS (pu v_two) (pu c2)))) (fun c2 : Int => bd (bd (pu (1 : Int)) fun y => ov (gI (· + ·) c2 y)) fun v_count_3 => pu (.nx v_count_3)) (v_one.length + 1) v_count_1) fun g4 => mRet (pu g4)
def m_common (v_one : Tx) (v_two : Tx) : M Unit Unit Int := retM (mb_common v_one v_two)

def mb_change (v_one : Tx) (v_two : Tx) : M Unit Unit (Fl Unit (Option (T3 Int Int Tx))) :=
  mThen (fun b : Unit => b) (mIf (mOp gEqS (pu v_one) (pu v_two)) (mRet (pu (none : (Option (T3 Int Int Tx))))) (pu (.nx ()))) fun g1 => bd (bd (mCons (pu v_one) (mCons (pu v_two) (pu ()))) fun x => zoom (fun _ => ()) (fun b _ => b) (m_common x.1 x.2.1)) fun v_offset_2 => bd (bd (mCons (mMapO gRevS (mSl gCut (pu v_one) (mMap some (pu v_offset_2)) (pu none))) (mCons (mMapO gRevS (mSl gCut (pu v_two) (mMap some (pu v_offset_2)) (pu none))) (pu ()))) fun x => zoom (fun _ => ()) (fun b _ => b) (m_common x.1 x.2.1)) fun v_end_3 => mRet (mMap some (mMap pr3 ((mCons (pu v_offset_2) (mCons (mOp (gI (· - ·)) (mOp (gI (· - ·)) (mMapO gLenT ((mCons (pu v_one) (pu ())))) (pu v_offset_2)) (pu v_end_3)) (mCons (mSl gCut (pu v_two) (mMap some (pu v_offset_2)) (mMap some (mOp (gI (· - ·)) (mMapO gLenT ((mCons (pu v_two) (pu ())))) (pu v_end_3)))) (pu ())))))))
def m_change (v_one : Tx) (v_two : Tx) : M Unit Unit (Option (T3 Int Int Tx)) := retM (mb_change v_one v_two)

def mb_changed (v_one : Tx) (v_told : (Option (T3 Int Int Tx))) : M Unit Unit (Fl Unit Tx) :=
  mThen (fun b : Unit => b) (mIf (mOp (fun (x : (Option (T3 Int Int Tx))) (_ : Unit) => some x.isNone) (pu v_told) (pu ())) (mRet (pu v_one)) (pu (.nx ()))) fun g1 => bd (mMapO (fun x : (Option (T3 Int Int Tx)) => x) (pu v_told)) fun t2 => mRet (mOp gCat (mOp gCat (mSl gCut (pu v_one) (pu none) (mMap some (pu t2.a))) (pu t2.c)) (mSl gCut (pu v_one) (mMap some (mOp (gI (· + ·)) (pu t2.a) (pu t2.b))) (pu none)))
def m_changed (v_one : Tx) (v_told : (Option (T3 Int Int Tx))) : M Unit Unit Tx := retM (mb_changed v_one v_told)


def mb_units (v_fragment : (List (Tx × Tx))) : M Unit Unit (Fl Unit (List (Tx × Tx))) :=
  mRet (mLc2 (pu v_fragment) (fun x1 : (Tx × Tx) => (mMap signs (pu x1.2))) (fun (x1 : (Tx × Tx)) (x2 : Tx) => mMap pr2 ((mCons (pu x1.1) (mCons (pu x2) (pu ()))))))
def m_units (v_fragment : (List (Tx × Tx))) : M Unit Unit (List (Tx × Tx)) := retM (mb_units v_fragment)

def mb_tidy (v_told : (List (Tx × Tx))) : M Unit Unit (Fl Unit (List (Tx × Tx))) :=
  bd (ov (tdRuns v_told)) fun rs1 => mRet (mLc (pu rs1) (fun x2 : (Tx × (List Tx)) => pu true) (fun x2 : (Tx × (List Tx)) => mMap pr2 ((mCons (pu x2.1) (mCons (mOp gJoin (pu ([] : Tx)) ((mCons (pu x2.2) (pu ())))) (pu ()))))))
def m_tidy (v_told : (List (Tx × Tx))) : M Unit Unit (List (Tx × Tx)) := retM (mb_tidy v_told)

def mb_kind (v_mode : Tx) (v_sign : Tx) : M Unit Unit (Fl Unit Tx) :=
  mThen (fun b : Unit => b) (mIf (mOp gEqS (pu v_sign) (pu ([32] : Tx))) (mRet (mIf (mOp gEqS (pu v_mode) (pu ([112, 114, 101, 115, 101, 114, 118, 101] : Tx))) (pu ([111, 116, 104, 101, 114] : Tx)) (pu ([115, 112, 97, 99, 101] : Tx)))) (pu (.nx ()))) fun g1 => mThen (fun b : Unit => b) (mIf (mOp gEqS (pu v_sign) (pu ([10] : Tx))) (mRet (mIf (mOp gEqS (pu v_mode) (pu ([99, 111, 108, 108, 97, 112, 115, 101] : Tx))) (pu ([102, 101, 101, 100] : Tx)) (pu ([101, 110, 100] : Tx)))) (pu (.nx ()))) fun g2 => mThen (fun b : Unit => b) (mIf (mOp gEqS (pu v_sign) (pu ([124] : Tx))) (mRet (pu ([101, 110, 100] : Tx))) (pu (.nx ()))) fun g3 => mThen (fun b : Unit => b) (mIf (mOp gEqS (pu v_sign) (pu ([94] : Tx))) (mRet (pu ([122, 101, 114, 111] : Tx))) (pu (.nx ()))) fun g4 => mThen (fun b : Unit => b) (mIf (mOp gInS (pu v_sign) (pu ([60, 62] : Tx))) (mRet (pu ([109, 97, 114, 107] : Tx))) (pu (.nx ()))) fun g5 => mRet (mIf (mOp gInS (pu v_sign) (pu ([65, 66, 67, 68, 69, 70, 71, 72, 73, 74, 75, 76, 77, 78, 79, 80, 81, 82, 83, 84, 85, 86, 87, 88, 89, 90] : Tx))) (pu ([119, 105, 100, 101] : Tx)) (pu ([111, 116, 104, 101, 114] : Tx)))
def m_kind (v_mode : Tx) (v_sign : Tx) : M Unit Unit Tx := retM (mb_kind v_mode v_sign)

def mb_kinds (v_told : (List (Tx × Tx))) : M Unit Unit (Fl Unit (List Tx)) :=
  mRet (mLc (pu v_told) (fun x1 : (Tx × Tx) => pu true) (fun x1 : (Tx × Tx) => bd (mCons (pu x1.1) (mCons (pu x1.2) (pu ()))) fun x => zoom (fun _ => ()) (fun b _ => b) (m_kind x.1 x.2.1)))
def m_kinds (v_told : (List (Tx × Tx))) : M Unit Unit (List Tx) := retM (mb_kinds v_told)

def mb_is_solid (v_one : Tx) : M Unit Unit (Fl Unit Bool) :=
  mRet (mOp gNotInT (pu v_one) (mMap Tp.mk (mMapO chk (mConsL (pu ([115, 112, 97, 99, 101] : Tx)) (mConsL (pu ([102, 101, 101, 100] : Tx)) (mConsL (pu ([109, 97, 114, 107] : Tx)) (pu ([] : List Tx))))))))
def m_is_solid (v_one : Tx) : M Unit Unit Bool := retM (mb_is_solid v_one)


def mb_gaps_of (v_told : (List Tx)) (v_border : (Option Tx)) : M Unit Unit (Fl Unit (List Gp)) :=
  (newM (α := Gp) (bd (pu v_border) fun v_left_1 => (newM (α := Int) (bd (mMap enumL (mCons (pu v_told) (pu ()))) fun xs => bd (foldX (fun (c2 : (Option Tx)) (x3 : (Int × Tx)) => mIf (mMapO (fun x : Bool => some x) (bd (mCons (pu x3.2) (pu ())) fun x => zoom (fun _ => ()) (fun b _ => b) (m_is_solid x.1))) ((frzM fun l4 : List Int => bd (bd (mMap mkGp ((mCons (pu c2) (mCons (mMap some (pu x3.2)) (mCons (pu l4) (pu ())))))) (mUpd (fun b : (Unit × List Gp) => b.2) (fun (b : (Unit × List Gp)) l => (b.1, l)) gApp)) fun _ => bd (mMap some (pu x3.2)) fun v_left_5 => (newM (α := Int) (pu v_left_5)))) (bd (bd (pu x3.1) (mUpd (fun b : ((Unit × List Gp) × List Int) => b.2) (fun (b : ((Unit × List Gp) × List Int)) l => (b.1, l)) gApp)) fun _ => pu c2)) xs v_left_1) fun g6 => (frzM fun l7 : List Int => bd (bd (mMap mkGp ((mCons (pu g6) (mCons (pu v_border) (mCons (pu l7) (pu ())))))) (mUpd (fun b : (Unit × List Gp) => b.2) (fun (b : (Unit × List Gp)) l => (b.1, l)) gApp)) fun _ => (frzM fun l8 : List Gp => mRet (pu l8)))))))
def m_gaps_of (v_told : (List Tx)) (v_border : (Option Tx)) : M Unit Unit (List Gp) := retM (mb_gaps_of v_told v_border)

def mb_join (v_left : (Option Tx)) (v_right : (Option Tx)) : M Unit Unit (Fl Unit Bool) :=
  mThen (fun b : Unit => b) (mIf (mOr (mOp (fun (x : (Option Tx)) (_ : Unit) => some x.isNone) (pu v_left) (pu ())) (mOp (fun (x : (Option Tx)) (_ : Unit) => some x.isNone) (pu v_right) (pu ()))) (mRet (pu false)) (pu (.nx ()))) fun g1 => mRet (mOr (mOp gInT (pu ([122, 101, 114, 111] : Tx)) (mMap Tp.mk (mMapO chk (mConsL (pu v_left) (mConsL (pu v_right) (pu ([] : List (Option Tx)))))))) (mAnd (mOp gEqS (pu v_left) (pu ([119, 105, 100, 101] : Tx))) (mOp gEqS (pu v_right) (pu ([119, 105, 100, 101] : Tx)))))
def m_join (v_left : (Option Tx)) (v_right : (Option Tx)) : M Unit Unit Bool := retM (mb_join v_left v_right)

def mb_white_of (v_told : (List Tx)) (v_gap : Gp) : M Unit Unit (Fl Unit (Option Int)) :=
  mThen (fun b : Unit => b) (mIf (mOp gInT (pu ([101, 110, 100] : Tx)) (mMap Tp.mk (mMapO chk (mConsL (mMap Gp.l (pu v_gap)) (mConsL (mMap Gp.r (pu v_gap)) (pu ([] : List (Option Tx)))))))) (mRet (pu (none : (Option Int)))) (pu (.nx ()))) fun g1 => bd (mLc (mMap Gp.ns (pu v_gap)) (fun x2 : Int => mOp gEqS (mOp (fun (x : (List Tx)) (i : Int) => atI x i) (pu v_told) (pu x2)) (pu ([102, 101, 101, 100] : Tx))) (fun x2 : Int => pu x2)) fun v_feeds_3 => mThen (fun b : Unit => b) (mIf (mMapO (fun x : (List Int) => some (!x.isEmpty)) (pu v_feeds_3)) (mRet (mIf (mMapO (fun x : Bool => some x) (bd (mCons (mMap Gp.l (pu v_gap)) (mCons (mMap Gp.r (pu v_gap)) (pu ()))) fun x => zoom (fun _ => ()) (fun b _ => b) (m_join x.1 x.2.1))) (pu (none : (Option Int))) (mMap some (mOp (fun (x : (List Int)) (i : Int) => atI x i) (pu v_feeds_3) (pu (0 : Int)))))) (pu (.nx ()))) fun g4 => bd (mLc (mMap Gp.ns (pu v_gap)) (fun x5 : Int => mOp gEqS (mOp (fun (x : (List Tx)) (i : Int) => atI x i) (pu v_told) (pu x5)) (pu ([115, 112, 97, 99, 101] : Tx))) (fun x5 : Int => pu x5)) fun v_spaces_6 => mRet (mIf (mMapO (fun x : (List Int) => some (!x.isEmpty)) (pu v_spaces_6)) (mMap some (mOp (fun (x : (List Int)) (i : Int) => atI x i) (pu v_spaces_6) (pu (0 : Int)))) (pu (none : (Option Int))))
def m_white_of (v_told : (List Tx)) (v_gap : Gp) : M Unit Unit (Option Int) := retM (mb_white_of v_told v_gap)

def mb_counting (v_told : (List Tx)) (v_border : (Option Tx)) : M Unit Unit (Fl Unit (List Int)) :=
  bd (mDcN (bd (mCons (pu v_told) (mCons (pu v_border) (pu ()))) fun x => zoom (fun _ => ()) (fun b _ => b) (m_gaps_of x.1 x.2.1)) (fun x1 : Gp => bd (mCons (pu v_told) (mCons (pu x1) (pu ()))) fun x => zoom (fun _ => ()) (fun b _ => b) (m_white_of x.1 x.2.1))) fun v_whites_2 => mRet (mLc (mMap enumL (mCons (pu v_told) (pu ()))) (fun x3 : (Int × Tx) => mOr (mOp gNotInT (pu x3.2) (mMap Tp.mk (mMapO chk (mConsL (pu ([115, 112, 97, 99, 101] : Tx)) (mConsL (pu ([102, 101, 101, 100] : Tx)) (pu ([] : List Tx))))))) (mOp (fun (x : Int) (y : DN) => some (decide (some x ∈ y.ks))) (pu x3.1) (pu v_whites_2))) (fun x3 : (Int × Tx) => pu x3.1))
def m_counting (v_told : (List Tx)) (v_border : (Option Tx)) : M Unit Unit (List Int) := retM (mb_counting v_told v_border)

def mb_sign_shown (v_one : Tx) (v_sign : Tx) : M Unit Unit (Fl Unit Tx) :=
  mThen (fun b : Unit => b) (mIf (mOp gEqS (pu v_one) (pu ([101, 110, 100] : Tx))) (mRet (pu ([10] : Tx))) (pu (.nx ()))) fun g1 => mRet (mIf (mOp gInT (pu v_one) (mMap Tp.mk (mMapO chk (mConsL (pu ([115, 112, 97, 99, 101] : Tx)) (mConsL (pu ([102, 101, 101, 100] : Tx)) (pu ([] : List Tx))))))) (pu ([32] : Tx)) (pu v_sign))
def m_sign_shown (v_one : Tx) (v_sign : Tx) : M Unit Unit Tx := retM (mb_sign_shown v_one v_sign)

def mb_shown_units (v_content : (List (Tx × Tx))) : M Unit Unit (Fl Unit (Tx × (List Int))) :=
  bd (bd (mCons (pu v_content) (pu ())) fun x => zoom (fun _ => ()) (fun b _ => b) (m_kinds x.1)) fun v_told_1 => bd (bd (mCons (pu v_told_1) (mCons (mMap some (pu ([101, 110, 100] : Tx))) (pu ()))) fun x => zoom (fun _ => ()) (fun b _ => b) (m_counting x.1 x.2.1)) fun v_sources_2 => mRet (mMap pr2 ((mCons (mOp gJoin (pu ([] : Tx)) ((mCons (mLc (pu v_sources_2) (fun x3 : Int => pu true) (fun x3 : Int => bd (mCons (mOp (fun (x : (List Tx)) (i : Int) => atI x i) (pu v_told_1) (pu x3)) (mCons (mOp (fun (x : (Tx × Tx)) (i : Int) => gK x.2 1 i) (mOp (fun (x : (List (Tx × Tx))) (i : Int) => atI x i) (pu v_content) (pu x3)) (pu (1 : Int))) (pu ()))) fun x => zoom (fun _ => ()) (fun b _ => b) (m_sign_shown x.1 x.2.1))) (pu ())))) (mCons (pu v_sources_2) (pu ())))))
def m_shown_units (v_content : (List (Tx × Tx))) : M Unit Unit (Tx × (List Int)) := retM (mb_shown_units v_content)

def mb_needed (v_told : (List (Tx × Tx))) : M Unit Unit (Fl Unit (List (Tx × Tx))) :=
  mRet (mLc (bd (mCons (bd (mCons (pu v_told) (pu ())) fun x => zoom (fun _ => ()) (fun b _ => b) (m_kinds x.1)) (mCons (pu (none : (Option Tx))) (pu ()))) fun x => zoom (fun _ => ()) (fun b _ => b) (m_counting x.1 x.2.1)) (fun x1 : Int => pu true) (fun x1 : Int => mOp (fun (x : (List (Tx × Tx))) (i : Int) => atI x i) (pu v_told) (pu x1)))
def m_needed (v_told : (List (Tx × Tx))) : M Unit Unit (List (Tx × Tx)) := retM (mb_needed v_told)

def mb_shortened (v_fragment : (List (Tx × Tx))) : M Unit Unit (Fl Unit (List (Tx × Tx))) :=
  mRet (bd (mCons (bd (mCons (bd (mCons (pu v_fragment) (pu ())) fun x => zoom (fun _ => ()) (fun b _ => b) (m_units x.1)) (pu ())) fun x => zoom (fun _ => ()) (fun b _ => b) (m_needed x.1)) (pu ())) fun x => zoom (fun _ => ()) (fun b _ => b) (m_tidy x.1))
def m_shortened (v_fragment : (List (Tx × Tx))) : M Unit Unit (List (Tx × Tx)) := retM (mb_shortened v_fragment)

def mb_with_feed_last (v_signs : Tx) : M Unit Unit (Fl Unit Tx) :=
  mRet (mIf (mOp gInS (pu ([10] : Tx)) (pu v_signs)) (mOp gCat (mMapO (gRepl "\n" "") (pu v_signs)) (pu ([10] : Tx))) (pu v_signs))
def m_with_feed_last (v_signs : Tx) : M Unit Unit Tx := retM (mb_with_feed_last v_signs)

def mb_with_feed_first (v_signs : Tx) : M Unit Unit (Fl Unit Tx) :=
  mRet (mIf (mOp gInS (pu ([10] : Tx)) (pu v_signs)) (mOp gCat (pu ([10] : Tx)) (mMapO (gRepl "\n" "") (pu v_signs))) (pu v_signs))
def m_with_feed_first (v_signs : Tx) : M Unit Unit Tx := retM (mb_with_feed_first v_signs)

def mb_form_of (v_told : (List (Tx × Tx))) : M Unit Unit (Fl Unit (T3 Tx Tx Tx)) :=
  bd (bd (mCons (pu v_told) (pu ())) fun x => zoom (fun _ => ()) (fun b _ => b) (m_needed x.1)) fun v_kept_1 => bd (bd (mCons (pu v_kept_1) (pu ())) fun x => zoom (fun _ => ()) (fun b _ => b) (m_kinds x.1)) fun v_ones_2 => bd (mLc (mMap enumL (mCons (pu v_ones_2) (pu ()))) (fun x3 : (Int × Tx) => mMapO (fun x : Bool => some x) (bd (mCons (pu x3.2) (pu ())) fun x => zoom (fun _ => ()) (fun b _ => b) (m_is_solid x.1))) (fun x3 : (Int × Tx) => pu x3.1)) fun v_solid_4 => mThen (fun b : Unit => b) (mIf (mNot (mMapO (fun x : (List Int) => some (!x.isEmpty)) (pu v_solid_4))) (mRet (mMap pr3 ((mCons (mOp gJoin (pu ([] : Tx)) ((mCons (mLc (pu v_kept_1) (fun x5 : (Tx × Tx) => pu true) (fun x5 : (Tx × Tx) => pu x5.2)) (pu ())))) (mCons (pu ([] : Tx)) (mCons (pu ([] : Tx)) (pu ()))))))) (pu (.nx ()))) fun g6 => bd (mCons (mOp (fun (x : (List Int)) (i : Int) => atI x i) (pu v_solid_4) (pu (0 : Int))) (mCons (mOp (fun (x : (List Int)) (i : Int) => atI x i) (pu v_solid_4) (pu (-1 : Int))) (pu ()))) fun t7 => bd (mOp gJoin (pu ([] : Tx)) ((mCons (mLc (mSl (fun (x : (List (Tx × Tx))) lo hi => some (cut x lo hi)) (pu v_kept_1) (pu none) (mMap some (pu t7.1))) (fun x8 : (Tx × Tx) => pu true) (fun x8 : (Tx × Tx) => pu x8.2)) (pu ())))) fun v_start_9 => bd (mOp gJoin (pu ([] : Tx)) ((mCons (mLc (mMapO gRange2 (mCons (pu t7.1) (mCons (mOp (gI (· + ·)) (pu t7.2.1) (pu (1 : Int))) (pu ())))) (fun x10 : Int => pu true) (fun x10 : Int => bd (mCons (mOp (fun (x : (List Tx)) (i : Int) => atI x i) (pu v_ones_2) (pu x10)) (mCons (mOp (fun (x : (Tx × Tx)) (i : Int) => gK x.2 1 i) (mOp (fun (x : (List (Tx × Tx))) (i : Int) => atI x i) (pu v_kept_1) (pu x10)) (pu (1 : Int))) (pu ()))) fun x => zoom (fun _ => ()) (fun b _ => b) (m_sign_shown x.1 x.2.1))) (pu ())))) fun v_core_11 => bd (mOp gJoin (pu ([] : Tx)) ((mCons (mLc (mSl (fun (x : (List (Tx × Tx))) lo hi => some (cut x lo hi)) (pu v_kept_1) (mMap some (mOp (gI (· + ·)) (pu t7.2.1) (pu (1 : Int)))) (pu none)) (fun x12 : (Tx × Tx) => pu true) (fun x12 : (Tx × Tx) => pu x12.2)) (pu ())))) fun v_end_13 => mThen (fun b : Unit => b) (mIf (mOp gEqS (mOp (fun (x : (List Tx)) (i : Int) => atI x i) (pu v_ones_2) (pu t7.1)) (pu ([122, 101, 114, 111] : Tx))) (bd (bd (mCons (pu v_start_9) (pu ())) fun x => zoom (fun _ => ()) (fun b _ => b) (m_with_feed_last x.1)) fun v_start_14 => pu (.nx v_start_14)) (pu (.nx v_start_9))) fun g15 => mThen (fun b : Unit => b) (mIf (mOp gEqS (mOp (fun (x : (List Tx)) (i : Int) => atI x i) (pu v_ones_2) (pu t7.2.1)) (pu ([122, 101, 114, 111] : Tx))) (bd (bd (mCons (pu v_end_13) (pu ())) fun x => zoom (fun _ => ()) (fun b _ => b) (m_with_feed_first x.1)) fun v_end_16 => pu (.nx v_end_16)) (pu (.nx v_end_13))) fun g17 => mRet (mMap pr3 ((mCons (pu g15) (mCons (pu v_core_11) (mCons (pu g17) (pu ()))))))
def m_form_of (v_told : (List (Tx × Tx))) : M Unit Unit (T3 Tx Tx Tx) := retM (mb_form_of v_told)

def mb_normal_form (v_fragment : (List (Tx × Tx))) : M Unit Unit (Fl Unit (T3 Tx Tx Tx)) :=
  mRet (bd (mCons (bd (mCons (pu v_fragment) (pu ())) fun x => zoom (fun _ => ()) (fun b _ => b) (m_units x.1)) (pu ())) fun x => zoom (fun _ => ()) (fun b _ => b) (m_form_of x.1))
def m_normal_form (v_fragment : (List (Tx × Tx))) : M Unit Unit (T3 Tx Tx Tx) := retM (mb_normal_form v_fragment)

def mb_units_for (v_form : (T3 Tx Tx Tx)) : M Unit Unit (Fl Unit (List (Tx × Tx))) :=
  mRet (bd (mCons (mMapO chk (mConsL (mMap pr2 ((mCons (pu ([99, 111, 108, 108, 97, 112, 115, 101] : Tx)) (mCons (mOp (fun (x : (T3 Tx Tx Tx)) (i : Int) => gK x.a 0 i) (pu v_form) (pu (0 : Int))) (pu ()))))) (mConsL (mMap pr2 ((mCons (pu ([112, 114, 101, 115, 101, 114, 118, 101] : Tx)) (mCons (mOp (fun (x : (T3 Tx Tx Tx)) (i : Int) => gK x.b 1 i) (pu v_form) (pu (1 : Int))) (pu ()))))) (mConsL (mMap pr2 ((mCons (pu ([99, 111, 108, 108, 97, 112, 115, 101] : Tx)) (mCons (mOp (fun (x : (T3 Tx Tx Tx)) (i : Int) => gK x.c 2 i) (pu v_form) (pu (2 : Int))) (pu ()))))) (pu ([] : List (Tx × Tx))))))) (pu ())) fun x => zoom (fun _ => ()) (fun b _ => b) (m_units x.1))
def m_units_for (v_form : (T3 Tx Tx Tx)) : M Unit Unit (List (Tx × Tx)) := retM (mb_units_for v_form)

def mb_stands_for (v_form : (T3 Tx Tx Tx)) : M Unit Unit (Fl Unit (List (Tx × Tx))) :=
  mRet (bd (mCons (bd (mCons (pu v_form) (pu ())) fun x => zoom (fun _ => ()) (fun b _ => b) (m_units_for x.1)) (pu ())) fun x => zoom (fun _ => ()) (fun b _ => b) (m_tidy x.1))
def m_stands_for (v_form : (T3 Tx Tx Tx)) : M Unit Unit (List (Tx × Tx)) := retM (mb_stands_for v_form)

def m_Document___init (v_fragment : (List (Tx × Tx))) : M Unit Unit St_Document := bd (bd (mCons (pu v_fragment) (pu ())) fun x => zoom (fun _ => ()) (fun b _ => b) (m_units x.1)) fun y1 => bd (mMapO chk (pu ([] : List (List (Tx × Tx))))) fun y2 => bd (mMapO chk (pu ([] : List (List (Tx × Tx))))) fun y3 => pu (y1, y2, y3, ())

def mb_Document_text  : M St_Document St_Document (Fl Unit Tx) :=
  mRet (mOp (fun (x : (Tx × (List Int))) (i : Int) => gK x.1 0 i) (bd (mCons ((fun b : St_Document => some (((fun b : St_Document => b) b).1, b))) (pu ())) fun x => zoom (fun _ => ()) (fun b _ => b) (m_shown_units x.1)) (pu (0 : Int)))
def m_Document_text  : M St_Document St_Document Tx := retM (mb_Document_text )

def mb_Document_length  : M St_Document St_Document (Fl Unit Int) :=
  mRet (mMapO (fun x : (List (Tx × Tx)) × Unit => some (x.1.length : Int)) ((mCons ((fun b : St_Document => some (((fun b : St_Document => b) b).1, b))) (pu ()))))
def m_Document_length  : M St_Document St_Document Int := retM (mb_Document_length )

def mb_Document_content  : M St_Document St_Document (Fl Unit (List (Tx × Tx))) :=
  mRet (bd (mCons ((fun b : St_Document => some (((fun b : St_Document => b) b).1, b))) (pu ())) fun x => zoom (fun _ => ()) (fun b _ => b) (m_tidy x.1))
def m_Document_content  : M St_Document St_Document (List (Tx × Tx)) := retM (mb_Document_content )

def mb_Document__turn (v_fresh : (List (Tx × Tx))) : M St_Document St_Document (Fl Unit (Option (T3 Int Int Tx))) :=
  bd (bd (pu ()) fun x => zoom (fun b : St_Document => b) (fun (b : St_Document) c => c) m_Document_text) fun v_before_1 => bd (bd (pu v_fresh) fun x => fun b => some ((), (fun (b : St_Document) c => c) b ((fun (x : St_Document) (y : (List (Tx × Tx))) => (y, x.2.1, x.2.2.1, ())) ((fun b : St_Document => b) b) x))) fun _ => mRet (bd (mCons (pu v_before_1) (mCons (bd (pu ()) fun x => zoom (fun b : St_Document => b) (fun (b : St_Document) c => c) m_Document_text) (pu ()))) fun x => zoom (fun _ => ()) (fun b _ => b) (m_change x.1 x.2.1))
def m_Document__turn (v_fresh : (List (Tx × Tx))) : M St_Document St_Document (Option (T3 Int Int Tx)) := retM (mb_Document__turn v_fresh)

def mb_Document__keep  : M St_Document St_Document (Fl Unit Unit) :=
  bd (bd (mSl (fun (x : (List (List (Tx × Tx)))) lo hi => some (cut x lo hi)) (mOp gCat ((fun b : St_Document => some (((fun b : St_Document => b) b).2.1, b))) (mMapO chk (mConsL ((fun b : St_Document => some (((fun b : St_Document => b) b).1, b))) (pu ([] : List (List (Tx × Tx))))))) (mMap some (mMap (fun x : Int => -x) (pu ((100 : Int) : Int)))) (pu none)) fun x => fun b => some ((), (fun (b : St_Document) c => c) b ((fun (x : St_Document) (y : (List (List (Tx × Tx)))) => (x.1, y, x.2.2.1, ())) ((fun b : St_Document => b) b) x))) fun _ => pu (.nx ())
def m_Document__keep  : M St_Document St_Document Unit := retU (mb_Document__keep )

def mb_Document__require (v_start : Int) (v_end : Int) : M St_Document St_Document (Fl Unit (Res Unit)) :=
  mIf (mOr (mOp (gB fun i j => decide (j < i)) (pu v_start) (pu v_end)) (mOp (gB fun i j => decide (j < i)) (pu v_end) (mMapO (fun x : (List (Tx × Tx)) × Unit => some (x.1.length : Int)) ((mCons ((fun b : St_Document => some (((fun b : St_Document => b) b).1, b))) (pu ())))))) (pu (.rt (.er [111, 117, 116, 115, 105, 100, 101]))) (pu (.nx ()))
def m_Document__require (v_start : Int) (v_end : Int) : M St_Document St_Document (Res Unit) := retEU (mb_Document__require v_start v_end)

def mb_Document__edit (v_start : Int) (v_end : Int) (v_more : (List (Tx × Tx))) : M St_Document St_Document (Fl Unit (Res (Option (T3 Int Int Tx)))) :=
  bd (mOp gCat (mOp gCat (mSl (fun (x : (List (Tx × Tx))) lo hi => some (cut x lo hi)) ((fun b : St_Document => some (((fun b : St_Document => b) b).1, b))) (pu none) (mMap some (pu v_start))) (pu v_more)) (mSl (fun (x : (List (Tx × Tx))) lo hi => some (cut x lo hi)) ((fun b : St_Document => some (((fun b : St_Document => b) b).1, b))) (mMap some (pu v_end)) (pu none))) fun v_fresh_1 => mThenE (γ' := Unit) (mIf (mOp (gB fun i j => decide (j < i)) (mMapO (fun x : (List (Tx × Tx)) × Unit => some (x.1.length : Int)) ((mCons (pu v_fresh_1) (pu ())))) (pu ((2000 : Int) : Int))) (pu (.rt (.er [116, 111, 111, 32, 108, 111, 110, 103]))) (pu (.nx ()))) fun _ => mOk (bd (bd (pu ()) fun x => zoom (fun b : St_Document => b) (fun (b : St_Document) c => c) m_Document__keep) fun _ => bd (bd (mMapO chk (pu ([] : List (List (Tx × Tx))))) fun x => fun b => some ((), (fun (b : St_Document) c => c) b ((fun (x : St_Document) (y : (List (List (Tx × Tx)))) => (x.1, x.2.1, y, ())) ((fun b : St_Document => b) b) x))) fun _ => mRet (bd (mCons (pu v_fresh_1) (pu ())) fun x => zoom (fun b : St_Document => b) (fun (b : St_Document) c => c) (m_Document__turn x.1)))
def m_Document__edit (v_start : Int) (v_end : Int) (v_more : (List (Tx × Tx))) : M St_Document St_Document (Res (Option (T3 Int Int Tx))) := retE (mb_Document__edit v_start v_end v_more)

def mb_Document_replace (v_start : Int) (v_end : Int) (v_fragment : (List (Tx × Tx))) : M St_Document St_Document (Fl Unit (Res (Option (T3 Int Int Tx)))) :=
  mErr (γ' := Unit) (bd (mCons (pu v_start) (mCons (pu v_end) (pu ()))) fun x => zoom (fun b : St_Document => b) (fun (b : St_Document) c => c) (m_Document__require x.1 x.2.1)) (fun _ => bd (bd (mCons (pu v_start) (mCons (pu v_end) (mCons (bd (mCons (pu v_fragment) (pu ())) fun x => zoom (fun _ => ()) (fun b _ => b) (m_units x.1)) (pu ())))) fun x => zoom (fun b : St_Document => b) (fun (b : St_Document) c => c) (m_Document__edit x.1 x.2.1 x.2.2.1)) fun r => pu (.rt r))
def m_Document_replace (v_start : Int) (v_end : Int) (v_fragment : (List (Tx × Tx))) : M St_Document St_Document (Res (Option (T3 Int Int Tx))) := retE (mb_Document_replace v_start v_end v_fragment)

def mb_Document_compact (v_start : Int) (v_end : Int) : M St_Document St_Document (Fl Unit (Res (Option (T3 Int Int Tx)))) :=
  mErr (γ' := Unit) (bd (mCons (pu v_start) (mCons (pu v_end) (pu ()))) fun x => zoom (fun b : St_Document => b) (fun (b : St_Document) c => c) (m_Document__require x.1 x.2.1)) (fun _ => bd (bd (mCons (pu v_start) (mCons (pu v_end) (mCons (bd (mCons (mSl (fun (x : (List (Tx × Tx))) lo hi => some (cut x lo hi)) ((fun b : St_Document => some (((fun b : St_Document => b) b).1, b))) (mMap some (pu v_start)) (mMap some (pu v_end))) (pu ())) fun x => zoom (fun _ => ()) (fun b _ => b) (m_needed x.1)) (pu ())))) fun x => zoom (fun b : St_Document => b) (fun (b : St_Document) c => c) (m_Document__edit x.1 x.2.1 x.2.2.1)) fun r => pu (.rt r))
def m_Document_compact (v_start : Int) (v_end : Int) : M St_Document St_Document (Res (Option (T3 Int Int Tx))) := retE (mb_Document_compact v_start v_end)

def mb_Document_undo  : M St_Document St_Document (Fl Unit (Res (Option (T3 Int Int Tx)))) :=
  mThenE (γ' := Unit) (mIf (mNot (mMapO (fun x : (List (List (Tx × Tx))) => some (!x.isEmpty)) ((fun b : St_Document => some (((fun b : St_Document => b) b).2.1, b))))) (pu (.rt (.er [110, 111, 116, 104, 105, 110, 103, 32, 116, 111, 32, 117, 110, 100, 111]))) (pu (.nx ()))) fun _ => mOk (bd (bd (mOp gCat ((fun b : St_Document => some (((fun b : St_Document => b) b).2.2.1, b))) (mMapO chk (mConsL ((fun b : St_Document => some (((fun b : St_Document => b) b).1, b))) (pu ([] : List (List (Tx × Tx))))))) fun x => fun b => some ((), (fun (b : St_Document) c => c) b ((fun (x : St_Document) (y : (List (List (Tx × Tx)))) => (x.1, x.2.1, y, ())) ((fun b : St_Document => b) b) x))) fun _ => bd (mOp (fun (x : (List (List (Tx × Tx)))) (i : Int) => atI x i) ((fun b : St_Document => some (((fun b : St_Document => b) b).2.1, b))) (pu (-1 : Int))) fun v_fresh_1 => bd (bd (mSl (fun (x : (List (List (Tx × Tx)))) lo hi => some (cut x lo hi)) ((fun b : St_Document => some (((fun b : St_Document => b) b).2.1, b))) (pu none) (mMap some (pu (-1 : Int)))) fun x => fun b => some ((), (fun (b : St_Document) c => c) b ((fun (x : St_Document) (y : (List (List (Tx × Tx)))) => (x.1, y, x.2.2.1, ())) ((fun b : St_Document => b) b) x))) fun _ => mRet (bd (mCons (pu v_fresh_1) (pu ())) fun x => zoom (fun b : St_Document => b) (fun (b : St_Document) c => c) (m_Document__turn x.1)))
def m_Document_undo  : M St_Document St_Document (Res (Option (T3 Int Int Tx))) := retE (mb_Document_undo )

def mb_Document_redo  : M St_Document St_Document (Fl Unit (Res (Option (T3 Int Int Tx)))) :=
  mThenE (γ' := Unit) (mIf (mNot (mMapO (fun x : (List (List (Tx × Tx))) => some (!x.isEmpty)) ((fun b : St_Document => some (((fun b : St_Document => b) b).2.2.1, b))))) (pu (.rt (.er [110, 111, 116, 104, 105, 110, 103, 32, 116, 111, 32, 114, 101, 100, 111]))) (pu (.nx ()))) fun _ => mOk (bd (bd (pu ()) fun x => zoom (fun b : St_Document => b) (fun (b : St_Document) c => c) m_Document__keep) fun _ => bd (mOp (fun (x : (List (List (Tx × Tx)))) (i : Int) => atI x i) ((fun b : St_Document => some (((fun b : St_Document => b) b).2.2.1, b))) (pu (-1 : Int))) fun v_fresh_1 => bd (bd (mSl (fun (x : (List (List (Tx × Tx)))) lo hi => some (cut x lo hi)) ((fun b : St_Document => some (((fun b : St_Document => b) b).2.2.1, b))) (pu none) (mMap some (pu (-1 : Int)))) fun x => fun b => some ((), (fun (b : St_Document) c => c) b ((fun (x : St_Document) (y : (List (List (Tx × Tx)))) => (x.1, x.2.1, y, ())) ((fun b : St_Document => b) b) x))) fun _ => mRet (bd (mCons (pu v_fresh_1) (pu ())) fun x => zoom (fun b : St_Document => b) (fun (b : St_Document) c => c) (m_Document__turn x.1)))
def m_Document_redo  : M St_Document St_Document (Res (Option (T3 Int Int Tx))) := retE (mb_Document_redo )

def mb_Document_source (v_start : Int) (v_end : Int) : M St_Document St_Document (Fl Unit (Res (List (Tx × Tx)))) :=
  mErr (γ' := Unit) (bd (mCons (pu v_start) (mCons (pu v_end) (pu ()))) fun x => zoom (fun b : St_Document => b) (fun (b : St_Document) c => c) (m_Document__require x.1 x.2.1)) (fun _ => mOk (mRet (bd (mCons (mSl (fun (x : (List (Tx × Tx))) lo hi => some (cut x lo hi)) ((fun b : St_Document => some (((fun b : St_Document => b) b).1, b))) (mMap some (pu v_start)) (mMap some (pu v_end))) (pu ())) fun x => zoom (fun _ => ()) (fun b _ => b) (m_tidy x.1))))
def m_Document_source (v_start : Int) (v_end : Int) : M St_Document St_Document (Res (List (Tx × Tx))) := retE (mb_Document_source v_start v_end)

def mb_law_cell (v_script : Scr) (v_k : Int) : M Unit Unit (Fl Unit Int) :=
  mThen (fun b : Unit => b) (mIf (mOp (gB fun i j => decide (i < j)) (pu v_k) (mMapO (fun x : Scr × Unit => some (x.1.ns.length : Int)) ((mCons (pu v_script) (pu ()))))) (mRet (mOp (fun (x : Scr) (i : Int) => atI x.ns i) (pu v_script) (pu v_k))) (pu (.nx ()))) fun g1 => mRet (pu (0 : Int))
def m_law_cell (v_script : Scr) (v_k : Int) : M Unit Unit Int := retM (mb_law_cell v_script v_k)

def mb_law_row (v_script : Scr) (v_first : Int) (v_last : Int) : M Unit Unit (Fl Unit (List Int)) :=
  (newM (α := Int) (mThen (fun b : (Unit × List Int) => b.1) (bd (mMapO gRange2 (mCons (pu v_first) (mCons (pu v_last) (pu ())))) fun xs => loopM (fun (c1 : Unit) (x2 : Int) => bd (bd (mCons (pu v_script) (mCons (pu x2) (pu ()))) fun x => zoom (fun _ => ()) (fun b _ => b) (m_law_cell x.1 x.2.1)) fun v_cell_here_3 => bd (mOp (gI (· + ·)) (mMapO gAbs ((mCons (mOp gMul (pu (2 : Int)) (pu v_cell_here_3)) (pu ())))) (mMapO gIntB ((mCons (mOp (gB fun i j => decide (i < j)) (pu v_cell_here_3) (pu (0 : Int))) (pu ()))))) fun v_cell_here_4 => mThen (fun b : (Unit × List Int) => b) (mIf (mOp (gB fun i j => decide (j < i)) (pu v_cell_here_4) (mOp gPow (pu (10 : Int)) (pu (18 : Int)))) (mThen (fun b : (Unit × List Int) => b) (bd (mMapO gRange1 (mCons (pu (60 : Int)) (pu ()))) fun xs => loopM (fun (c5 : Int) (x6 : Int) => mThen (fun b : (Unit × List Int) => b) (mIf (mOp (gB fun i j => decide (j < i)) (pu c5) (pu (0 : Int))) (bd (bd (mOp gMod (mMapO (fun x : Int × Unit => some x.1) ((mCons (pu c5) (pu ())))) (pu (840 : Int))) (mUpd (fun b : (Unit × List Int) => b.2) (fun (b : (Unit × List Int)) l => (b.1, l)) gApp)) fun _ => bd (mOp gDiv (pu c5) (pu (840 : Int))) fun v_cell_here_7 => pu (.nx v_cell_here_7)) (pu (.nx c5))) fun g8 => pu (.nx g8)) xs v_cell_here_4) fun g9 => pu (.nx ())) (mThen (fun b : (Unit × List Int) => b) (bd (mMapO gRange1 (mCons (pu (10 : Int)) (pu ()))) fun xs => loopM (fun (c10 : Int) (x11 : Int) => bd (mOp gMod (mMapO (fun x : Int × Unit => some x.1) ((mCons (mOp (gI (· + ·)) (mOp (gI (· + ·)) (mOp gMul (pu c10) (pu (69069 : Int))) (mOp gMul (pu (104729 : Int)) (mOp (gI (· + ·)) (pu x2) (pu x11)))) (pu (1 : Int))) (pu ())))) (pu (4294967291 : Int))) fun v_cell_here_12 => bd (bd (mOp gMod (mMapO (fun x : Int × Unit => some x.1) ((mCons (mOp gDiv (pu v_cell_here_12) (pu (5003 : Int))) (pu ())))) (pu (840 : Int))) (mUpd (fun b : (Unit × List Int) => b.2) (fun (b : (Unit × List Int)) l => (b.1, l)) gApp)) fun _ => pu (.nx v_cell_here_12)) xs v_cell_here_4) fun g13 => pu (.nx ()))) fun g14 => pu (.nx ())) xs ()) fun g15 => (frzM fun l16 : List Int => mRet (pu l16))))
def m_law_row (v_script : Scr) (v_first : Int) (v_last : Int) : M Unit Unit (List Int) := retM (mb_law_row v_script v_first v_last)

def mb_law_draw (v_many : Int) : M Bx Bx (Fl Unit Int) :=
  bd ((fun b : Bx => some (((fun b : Bx => b) b).2, b))) fun v_at_1 => bd (bd (mOp (gI (· + ·)) (pu v_at_1) (pu (1 : Int))) fun x => fun b => some ((), (fun (b : Bx) (c : Bx) => c) b (((fun b : Bx => b) b).1, x))) fun _ => mThen (fun b : Bx => b) (mIf (mOp (gB fun i j => decide (i < j)) (pu v_at_1) (mMapO (fun x : (List Int) × Unit => some (x.1.length : Int)) ((mCons ((fun b : Bx => some (((fun b : Bx => b) b).1, b))) (pu ()))))) (mRet (mOp gMod (mMapO (fun x : Int × Unit => some x.1) ((mCons (mOp (fun (x : (List Int)) (i : Int) => atI x i) ((fun b : Bx => some (((fun b : Bx => b) b).1, b))) (pu v_at_1)) (pu ())))) (pu v_many))) (pu (.nx ()))) fun g2 => mRet (mOp gMod (mMapO (fun x : Int × Unit => some x.1) ((mCons (mOp (gI (· + ·)) (mOp gMul (pu v_at_1) (pu (5 : Int))) (pu (1 : Int))) (pu ())))) (pu v_many))
def m_law_draw (v_many : Int) : M Bx Bx Int := retM (mb_law_draw v_many)

def mb_law_fragment (v_most : Int) : M Bx Bx (Fl Unit (List (Tx × Tx))) :=
  (newM (α := (Tx × Tx)) (mThen (fun b : (Bx × List (Tx × Tx)) => b.1) (bd (mMapO gRange1 (mCons (bd (mCons (pu (5 : Int)) (pu ())) fun x => zoom (fun b : (Bx × List (Tx × Tx)) => b.1) (fun (b : (Bx × List (Tx × Tx))) c => (c, b.2)) (m_law_draw x.1)) (pu ()))) fun xs => loopM (fun (c1 : Unit) (x2 : Int) => bd (mOp (fun (x : (List Tx)) (i : Int) => atI x i) (mMapO chk (mConsL (pu ([99, 111, 108, 108, 97, 112, 115, 101] : Tx)) (mConsL (pu ([99, 111, 108, 108, 97, 112, 115, 101] : Tx)) (mConsL (pu ([98, 114, 101, 97, 107, 115] : Tx)) (mConsL (pu ([112, 114, 101, 115, 101, 114, 118, 101] : Tx)) (pu ([] : List Tx))))))) (bd (mCons (pu (4 : Int)) (pu ())) fun x => zoom (fun b : (Bx × List (Tx × Tx)) => b.1) (fun (b : (Bx × List (Tx × Tx))) c => (c, b.2)) (m_law_draw x.1))) fun v_mode_3 => bd (pu ([] : Tx)) fun v_text_4 => mThen (fun b : (Bx × List (Tx × Tx)) => b) (bd (mMapO gRange1 (mCons (bd (mCons (pu v_most) (pu ())) fun x => zoom (fun b : (Bx × List (Tx × Tx)) => b.1) (fun (b : (Bx × List (Tx × Tx))) c => (c, b.2)) (m_law_draw x.1)) (pu ()))) fun xs => loopM (fun (c5 : Tx) (x6 : Int) => bd (mOp gCat (pu c5) (mOp gIxS (pu ([32, 32, 10, 10, 124, 124, 94, 94, 60, 62, 65, 65, 66, 98, 97, 120, 55] : Tx)) (bd (mCons (pu (17 : Int)) (pu ())) fun x => zoom (fun b : (Bx × List (Tx × Tx)) => b.1) (fun (b : (Bx × List (Tx × Tx))) c => (c, b.2)) (m_law_draw x.1)))) fun v_text_7 => pu (.nx v_text_7)) xs v_text_4) fun g8 => bd (bd (mMap pr2 ((mCons (pu v_mode_3) (mCons (pu g8) (pu ()))))) (mUpd (fun b : (Bx × List (Tx × Tx)) => b.2) (fun (b : (Bx × List (Tx × Tx))) l => (b.1, l)) gApp)) fun _ => pu (.nx ())) xs ()) fun g9 => (frzM fun l10 : List (Tx × Tx) => mRet (pu l10))))
def m_law_fragment (v_most : Int) : M Bx Bx (List (Tx × Tx)) := retM (mb_law_fragment v_most)

def mb_law_units (v_fragment_here : (List (Tx × Tx))) : M Unit Unit (Fl Unit (List (Tx × Tx))) :=
  (newM (α := (Tx × Tx)) (mThen (fun b : (Unit × List (Tx × Tx)) => b.1) (bd (pu v_fragment_here) fun xs => loopM (fun (c1 : Unit) (x2 : (Tx × Tx)) => bd (bd (mLc (mMap signs (pu x2.2)) (fun x3 : Tx => pu true) (fun x3 : Tx => mMap pr2 ((mCons (pu x2.1) (mCons (pu x3) (pu ())))))) (mUpd (fun b : (Unit × List (Tx × Tx)) => b.2) (fun (b : (Unit × List (Tx × Tx))) l => (b.1, l)) gExt)) fun _ => pu (.nx ())) xs ()) fun g4 => (frzM fun l5 : List (Tx × Tx) => mRet (pu l5))))
def m_law_units (v_fragment_here : (List (Tx × Tx))) : M Unit Unit (List (Tx × Tx)) := retM (mb_law_units v_fragment_here)

def mb_law_tidy (v_units_here : (List (Tx × Tx))) : M Unit Unit (Fl Unit (List (Tx × Tx))) :=
  (newM (α := (Tx × Tx)) (mThen (fun b : (Unit × List (Tx × Tx)) => b.1) (bd (pu v_units_here) fun xs => loopM (fun (c1 : Unit) (x2 : (Tx × Tx)) => mThen (fun b : (Unit × List (Tx × Tx)) => b) (mIf (mAnd (mOp (gB fun i j => decide (j < i)) ((fun b : (Unit × List (Tx × Tx)) => some ((((fun b : (Unit × List (Tx × Tx)) => b.2) b).length : Int), b))) (pu (0 : Int))) (mOp gEqS (mOp (fun (x : (Tx × Tx)) (i : Int) => gK x.1 0 i) (mPeek (fun b : (Unit × List (Tx × Tx)) => b.2) (pu (-1 : Int))) (pu (0 : Int))) (pu x2.1))) (bd (bd (mMap pr2 ((mCons (pu x2.1) (mCons (mOp gCat (mOp (fun (x : (Tx × Tx)) (i : Int) => gK x.2 1 i) (mPeek (fun b : (Unit × List (Tx × Tx)) => b.2) (pu (-1 : Int))) (pu (1 : Int))) (pu x2.2)) (pu ()))))) (mUpd (fun b : (Unit × List (Tx × Tx)) => b.2) (fun (b : (Unit × List (Tx × Tx))) l => (b.1, l)) gSetLast)) fun _ => pu (.nx ())) (bd (bd (mMap pr2 ((mCons (pu x2.1) (mCons (pu x2.2) (pu ()))))) (mUpd (fun b : (Unit × List (Tx × Tx)) => b.2) (fun (b : (Unit × List (Tx × Tx))) l => (b.1, l)) gApp)) fun _ => pu (.nx ()))) fun g3 => pu (.nx ())) xs ()) fun g4 => (frzM fun l5 : List (Tx × Tx) => mRet (pu l5))))
def m_law_tidy (v_units_here : (List (Tx × Tx))) : M Unit Unit (List (Tx × Tx)) := retM (mb_law_tidy v_units_here)

def mb_law_kind (v_unit : (Tx × Tx)) : M Unit Unit (Fl Unit Tx) :=
  bd (mOp (fun (x : (Tx × Tx)) (i : Int) => gK x.1 0 i) (pu v_unit) (pu (0 : Int))) fun v_mode_1 => bd (mOp (fun (x : (Tx × Tx)) (i : Int) => gK x.2 1 i) (pu v_unit) (pu (1 : Int))) fun v_sign_here_2 => mThen (fun b : Unit => b) (mIf (mOp gEqS (pu v_sign_here_2) (pu ([32] : Tx))) (mRet (mOp (fun (x : (List Tx)) (i : Int) => atI x i) (mMapO chk (mConsL (pu ([115, 112, 97, 99, 101] : Tx)) (mConsL (pu ([111, 116, 104, 101, 114] : Tx)) (pu ([] : List Tx))))) (mMapO gIntB ((mCons (mOp gEqS (pu v_mode_1) (pu ([112, 114, 101, 115, 101, 114, 118, 101] : Tx))) (pu ())))))) (pu (.nx ()))) fun g3 => mThen (fun b : Unit => b) (mIf (mOp gEqS (pu v_sign_here_2) (pu ([10] : Tx))) (mRet (mOp (fun (x : (List Tx)) (i : Int) => atI x i) (mMapO chk (mConsL (pu ([101, 110, 100] : Tx)) (mConsL (pu ([102, 101, 101, 100] : Tx)) (pu ([] : List Tx))))) (mMapO gIntB ((mCons (mOp gEqS (pu v_mode_1) (pu ([99, 111, 108, 108, 97, 112, 115, 101] : Tx))) (pu ())))))) (pu (.nx ()))) fun g4 => mThen (fun b : Unit => b) (mIf (mOp gInS (pu v_sign_here_2) (pu ([124, 94, 60, 62] : Tx))) (mRet (mOp gDGet (pu (DT.mk [("|", "end"), ("^", "zero"), ("<", "mark"), (">", "mark")])) (pu v_sign_here_2))) (pu (.nx ()))) fun g5 => mRet (mOp (fun (x : (List Tx)) (i : Int) => atI x i) (mMapO chk (mConsL (pu ([111, 116, 104, 101, 114] : Tx)) (mConsL (pu ([119, 105, 100, 101] : Tx)) (pu ([] : List Tx))))) (mMapO gIntB ((mCons (mOp gInS (pu v_sign_here_2) (pu ([65, 66, 67, 68, 69, 70, 71, 72, 73, 74, 75, 76, 77, 78, 79, 80, 81, 82, 83, 84, 85, 86, 87, 88, 89, 90] : Tx))) (pu ())))))
def m_law_kind (v_unit : (Tx × Tx)) : M Unit Unit Tx := retM (mb_law_kind v_unit)

def m_law_gaps (v_units_here : (List (Tx × Tx))) : M Unit Unit (List Lg) := mGaps (mLc (pu v_units_here) (fun x1 : (Tx × Tx) => pu true) (fun x1 : (Tx × Tx) => bd (mCons (pu x1) (pu ())) fun x => zoom (fun _ => ()) (fun b _ => b) (m_law_kind x.1))) (fun ks => (mMapO gRange1 (mCons (mMapO (fun x : (List (Tx × Tx)) × Unit => some (x.1.length : Int)) ((mCons (pu v_units_here) (pu ())))) (pu ())))) (fun ks x => mOp gInT (mOp (fun (x : (List Tx)) (i : Int) => atI x i) (pu ks) (pu x)) (mMap Tp.mk (mMapO chk (mConsL (pu ([115, 112, 97, 99, 101] : Tx)) (mConsL (pu ([102, 101, 101, 100] : Tx)) (mConsL (pu ([109, 97, 114, 107] : Tx)) (pu ([] : List Tx)))))))) (fun ks x => mOp (fun (x : (List Tx)) (i : Int) => atI x i) (pu ks) (pu x))

def mb_law_join (v_one : (Option Tx)) (v_two : (Option Tx)) : M Unit Unit (Fl Unit Bool) :=
  mRet (mOr (mOp gEqS (pu v_one) (pu ([122, 101, 114, 111] : Tx))) (mOr (mOp gEqS (pu v_two) (pu ([122, 101, 114, 111] : Tx))) (mAnd (mOp gEqS (pu v_one) (pu ([119, 105, 100, 101] : Tx))) (mOp gEqS (pu v_two) (pu ([119, 105, 100, 101] : Tx))))))
def m_law_join (v_one : (Option Tx)) (v_two : (Option Tx)) : M Unit Unit Bool := retM (mb_law_join v_one v_two)

def mb_law_kept (v_units_here : (List (Tx × Tx))) (v_gap : Lg) : M Unit Unit (Fl Unit Int) :=
  bd (mLc (mOp (fun (x : Lg) (i : Int) => gK x.ns 0 i) (pu v_gap) (pu (0 : Int))) (fun x1 : Int => pu true) (fun x1 : Int => bd (mCons (mOp (fun (x : (List (Tx × Tx))) (i : Int) => atI x i) (pu v_units_here) (pu x1)) (pu ())) fun x => zoom (fun _ => ()) (fun b _ => b) (m_law_kind x.1))) fun v_kinds_2 => mThen (fun b : Unit => b) (mIf (mOr (mOp gEqS (mOp (fun (x : Lg) (i : Int) => gK x.l 1 i) (pu v_gap) (pu (1 : Int))) (pu ([101, 110, 100] : Tx))) (mOp gEqS (mOp (fun (x : Lg) (i : Int) => gK x.r 2 i) (pu v_gap) (pu (2 : Int))) (pu ([101, 110, 100] : Tx)))) (mRet (pu (-1 : Int))) (pu (.nx ()))) fun g3 => mThen (fun b : Unit => b) (mIf (mOp gInL (pu ([102, 101, 101, 100] : Tx)) (pu v_kinds_2)) (mThen (fun b : Unit => b) (mIf (mAnd (mOp (fun (x : (Option Tx)) (_ : Unit) => some x.isSome) (mOp (fun (x : Lg) (i : Int) => gK x.l 1 i) (pu v_gap) (pu (1 : Int))) (pu ())) (mAnd (mOp (fun (x : (Option Tx)) (_ : Unit) => some x.isSome) (mOp (fun (x : Lg) (i : Int) => gK x.r 2 i) (pu v_gap) (pu (2 : Int))) (pu ())) (mMapO (fun x : Bool => some x) (bd (mCons (mOp (fun (x : Lg) (i : Int) => gK x.l 1 i) (pu v_gap) (pu (1 : Int))) (mCons (mOp (fun (x : Lg) (i : Int) => gK x.r 2 i) (pu v_gap) (pu (2 : Int))) (pu ()))) fun x => zoom (fun _ => ()) (fun b _ => b) (m_law_join x.1 x.2.1))))) (mRet (pu (-1 : Int))) (pu (.nx ()))) fun g4 => mRet (mOp (fun (x : (List Int)) (i : Int) => atI x i) (mOp (fun (x : Lg) (i : Int) => gK x.ns 0 i) (pu v_gap) (pu (0 : Int))) (mOp gIndex (pu v_kinds_2) ((mCons (pu ([102, 101, 101, 100] : Tx)) (pu ())))))) (pu (.nx ()))) fun g5 => mThen (fun b : Unit => b) (mIf (mOp gInL (pu ([115, 112, 97, 99, 101] : Tx)) (pu v_kinds_2)) (mRet (mOp (fun (x : (List Int)) (i : Int) => atI x i) (mOp (fun (x : Lg) (i : Int) => gK x.ns 0 i) (pu v_gap) (pu (0 : Int))) (mOp gIndex (pu v_kinds_2) ((mCons (pu ([115, 112, 97, 99, 101] : Tx)) (pu ())))))) (pu (.nx ()))) fun g6 => mRet (pu (-1 : Int))
def m_law_kept (v_units_here : (List (Tx × Tx))) (v_gap : Lg) : M Unit Unit Int := retM (mb_law_kept v_units_here v_gap)

def mb_law_sign (v_unit : (Tx × Tx)) : M Unit Unit (Fl Unit Tx) :=
  bd (bd (mCons (pu v_unit) (pu ())) fun x => zoom (fun _ => ()) (fun b _ => b) (m_law_kind x.1)) fun v_kind_here_1 => mThen (fun b : Unit => b) (mIf (mOp gEqS (pu v_kind_here_1) (pu ([101, 110, 100] : Tx))) (mRet (pu ([10] : Tx))) (pu (.nx ()))) fun g2 => mThen (fun b : Unit => b) (mIf (mOp gInT (pu v_kind_here_1) (mMap Tp.mk (mMapO chk (mConsL (pu ([115, 112, 97, 99, 101] : Tx)) (mConsL (pu ([102, 101, 101, 100] : Tx)) (pu ([] : List Tx))))))) (mRet (pu ([32] : Tx))) (pu (.nx ()))) fun g3 => mRet (mOp (fun (x : (Tx × Tx)) (i : Int) => gK x.2 1 i) (pu v_unit) (pu (1 : Int)))
def m_law_sign (v_unit : (Tx × Tx)) : M Unit Unit Tx := retM (mb_law_sign v_unit)

def mb_law_shown (v_units_here : (List (Tx × Tx))) : M Unit Unit (Fl Unit (LP Tx (List Int))) :=
  bd (bd (bd (mCons (pu v_units_here) (pu ())) fun x => zoom (fun _ => ()) (fun b _ => b) (m_law_gaps x.1)) fun g => ov (endsG [101, 110, 100] g)) fun g1 => bd (mLc (pu g1) (fun x2 : Lg => pu true) (fun x2 : Lg => bd (mCons (pu v_units_here) (mCons (pu x2) (pu ()))) fun x => zoom (fun _ => ()) (fun b _ => b) (m_law_kept x.1 x.2.1))) fun v_kept_here_3 => bd (mLc (mMapO gRange1 (mCons (mMapO (fun x : (List (Tx × Tx)) × Unit => some (x.1.length : Int)) ((mCons (pu v_units_here) (pu ())))) (pu ()))) (fun x4 : Int => mOr (mOp gInL (pu x4) (pu v_kept_here_3)) (mOp gNotInT (bd (mCons (mOp (fun (x : (List (Tx × Tx))) (i : Int) => atI x i) (pu v_units_here) (pu x4)) (pu ())) fun x => zoom (fun _ => ()) (fun b _ => b) (m_law_kind x.1)) (mMap Tp.mk (mMapO chk (mConsL (pu ([115, 112, 97, 99, 101] : Tx)) (mConsL (pu ([102, 101, 101, 100] : Tx)) (pu ([] : List Tx)))))))) (fun x4 : Int => pu x4)) fun v_sources_5 => mRet (mMap mkLP ((mCons (mOp gJoin (pu ([] : Tx)) ((mCons (mLc (pu v_sources_5) (fun x6 : Int => pu true) (fun x6 : Int => bd (mCons (mOp (fun (x : (List (Tx × Tx))) (i : Int) => atI x i) (pu v_units_here) (pu x6)) (pu ())) fun x => zoom (fun _ => ()) (fun b _ => b) (m_law_sign x.1))) (pu ())))) (mCons (pu v_sources_5) (pu ())))))
def m_law_shown (v_units_here : (List (Tx × Tx))) : M Unit Unit (LP Tx (List Int)) := retM (mb_law_shown v_units_here)

def mb_law_part  : M Bx Bx (Fl Unit (List (Tx × Tx))) :=
  mRet (bd (mCons (bd (mCons (bd (mCons (pu (7 : Int)) (pu ())) fun x => zoom (fun b : Bx => b) (fun (b : Bx) c => c) (m_law_fragment x.1)) (pu ())) fun x => zoom (fun _ => ()) (fun b _ => b) (m_law_units x.1)) (pu ())) fun x => zoom (fun _ => ()) (fun b _ => b) (m_law_tidy x.1))
def m_law_part  : M Bx Bx (List (Tx × Tx)) := retM (mb_law_part )

def mb_law_short_part  : M Bx Bx (Fl Unit (List (Tx × Tx))) :=
  bd (mOp gJoin (pu ([] : Tx)) ((mCons (mLc (mMapO gRange1 (mCons (bd (mCons (pu (4 : Int)) (pu ())) fun x => zoom (fun b : Bx => b) (fun (b : Bx) c => c) (m_law_draw x.1)) (pu ()))) (fun x1 : Int => pu true) (fun x1 : Int => mOp gIxS (pu ([32, 32, 10, 10, 124, 94, 60, 65, 97] : Tx)) (bd (mCons (pu (9 : Int)) (pu ())) fun x => zoom (fun b : Bx => b) (fun (b : Bx) c => c) (m_law_draw x.1)))) (pu ())))) fun v_text_2 => mRet (mMapO chk (mConsL (mMap pr2 ((mCons (mOp (fun (x : (List Tx)) (i : Int) => atI x i) (mMapO chk (mConsL (pu ([99, 111, 108, 108, 97, 112, 115, 101] : Tx)) (mConsL (pu ([99, 111, 108, 108, 97, 112, 115, 101] : Tx)) (mConsL (pu ([99, 111, 108, 108, 97, 112, 115, 101] : Tx)) (mConsL (pu ([98, 114, 101, 97, 107, 115] : Tx)) (mConsL (pu ([112, 114, 101, 115, 101, 114, 118, 101] : Tx)) (pu ([] : List Tx)))))))) (bd (mCons (pu (5 : Int)) (pu ())) fun x => zoom (fun b : Bx => b) (fun (b : Bx) c => c) (m_law_draw x.1))) (mCons (pu v_text_2) (pu ()))))) (pu ([] : List (Tx × Tx)))))
def m_law_short_part  : M Bx Bx (List (Tx × Tx)) := retM (mb_law_short_part )

def mb_law_deed  : M (Bx × St_Document) (Bx × St_Document) (Fl Unit (L3 (Option (T3 Int Int Tx)) Bool (Option (List (Tx × Tx))))) :=
  bd (bd (mCons (pu (7 : Int)) (pu ())) fun x => zoom (fun b : (Bx × St_Document) => b.1) (fun (b : (Bx × St_Document)) c => (c, b.2)) (m_law_draw x.1)) fun v_kind_here_1 => bd (mOp gMod (mMapO (fun x : Int × Unit => some x.1) ((mCons (bd (mCons (pu (200 : Int)) (pu ())) fun x => zoom (fun b : (Bx × St_Document) => b.1) (fun (b : (Bx × St_Document)) c => (c, b.2)) (m_law_draw x.1)) (pu ())))) (mOp (gI (· + ·)) (bd (pu ()) fun x => zoom (fun b : (Bx × St_Document) => b.2) (fun (b : (Bx × St_Document)) c => (b.1, c)) m_Document_length) (pu (1 : Int)))) fun v_start_2 => bd (mOp (gI (· + ·)) (pu v_start_2) (mOp gMod (mMapO (fun x : Int × Unit => some x.1) ((mCons (bd (mCons (pu (200 : Int)) (pu ())) fun x => zoom (fun b : (Bx × St_Document) => b.1) (fun (b : (Bx × St_Document)) c => (c, b.2)) (m_law_draw x.1)) (pu ())))) (mOp (gI (· - ·)) (mOp (gI (· + ·)) (bd (pu ()) fun x => zoom (fun b : (Bx × St_Document) => b.2) (fun (b : (Bx × St_Document)) c => (b.1, c)) m_Document_length) (pu (1 : Int))) (pu v_start_2)))) fun v_end_3 => bd (bd (mCons (bd (pu ()) fun x => zoom (fun b : (Bx × St_Document) => b.2) (fun (b : (Bx × St_Document)) c => (b.1, c)) m_Document_content) (pu ())) fun x => zoom (fun _ => ()) (fun b _ => b) (m_law_units x.1)) fun v_units_here_4 => mThen (fun b : (Bx × St_Document) => b) (mIf (mOp (gB fun i j => decide (i < j)) (pu v_kind_here_1) (pu (3 : Int))) (bd (bd (pu ()) fun x => zoom (fun b : (Bx × St_Document) => b.1) (fun (b : (Bx × St_Document)) c => (c, b.2)) m_law_short_part) fun v_part_here_5 => bd (bd (mCons (mOp gCat (mOp gCat (mSl (fun (x : (List (Tx × Tx))) lo hi => some (cut x lo hi)) (pu v_units_here_4) (pu none) (mMap some (pu v_start_2))) (bd (mCons (pu v_part_here_5) (pu ())) fun x => zoom (fun _ => ()) (fun b _ => b) (m_law_units x.1))) (mSl (fun (x : (List (Tx × Tx))) lo hi => some (cut x lo hi)) (pu v_units_here_4) (mMap some (pu v_end_3)) (pu none))) (pu ())) fun x => zoom (fun _ => ()) (fun b _ => b) (m_law_tidy x.1)) fun v_due_6 => mRet (mMap mkL3 ((mCons (bd (bd (mCons (pu v_start_2) (mCons (pu v_end_3) (mCons (pu v_part_here_5) (pu ())))) fun x => zoom (fun b : (Bx × St_Document) => b.2) (fun (b : (Bx × St_Document)) c => (b.1, c)) (m_Document_replace x.1 x.2.1 x.2.2.1)) resOk) (mCons (pu false) (mCons (mMap some (pu v_due_6)) (pu ()))))))) (pu (.nx ()))) fun g7 => mThen (fun b : (Bx × St_Document) => b) (mIf (mOp gEqS (pu v_kind_here_1) (pu (3 : Int))) (bd (bd (bd (mCons (pu v_start_2) (mCons (pu v_end_3) (pu ()))) fun x => zoom (fun b : (Bx × St_Document) => b.2) (fun (b : (Bx × St_Document)) c => (b.1, c)) (m_Document_source x.1 x.2.1)) resOk) fun v_part_here_8 => bd (mOp (fun (x : (List (List (Tx × Tx)))) (i : Int) => atI x i) (mMapO chk (mConsL (bd (mCons (pu v_part_here_8) (pu ())) fun x => zoom (fun _ => ()) (fun b _ => b) (m_shortened x.1)) (mConsL (bd (mCons (bd (mCons (pu v_part_here_8) (pu ())) fun x => zoom (fun _ => ()) (fun b _ => b) (m_normal_form x.1)) (pu ())) fun x => zoom (fun _ => ()) (fun b _ => b) (m_stands_for x.1)) (pu ([] : List (List (Tx × Tx))))))) (bd (mCons (pu (2 : Int)) (pu ())) fun x => zoom (fun b : (Bx × St_Document) => b.1) (fun (b : (Bx × St_Document)) c => (c, b.2)) (m_law_draw x.1))) fun v_other_9 => bd (bd (mCons (mOp gCat (mOp gCat (mSl (fun (x : (List (Tx × Tx))) lo hi => some (cut x lo hi)) (pu v_units_here_4) (pu none) (mMap some (pu v_start_2))) (bd (mCons (pu v_other_9) (pu ())) fun x => zoom (fun _ => ()) (fun b _ => b) (m_law_units x.1))) (mSl (fun (x : (List (Tx × Tx))) lo hi => some (cut x lo hi)) (pu v_units_here_4) (mMap some (pu v_end_3)) (pu none))) (pu ())) fun x => zoom (fun _ => ()) (fun b _ => b) (m_law_tidy x.1)) fun v_due_10 => mRet (mMap mkL3 ((mCons (bd (bd (mCons (pu v_start_2) (mCons (pu v_end_3) (mCons (pu v_other_9) (pu ())))) fun x => zoom (fun b : (Bx × St_Document) => b.2) (fun (b : (Bx × St_Document)) c => (b.1, c)) (m_Document_replace x.1 x.2.1 x.2.2.1)) resOk) (mCons (pu true) (mCons (mMap some (pu v_due_10)) (pu ()))))))) (pu (.nx ()))) fun g11 => mThen (fun b : (Bx × St_Document) => b) (mIf (mOp gEqS (pu v_kind_here_1) (pu (4 : Int))) (mRet (mMap mkL3 ((mCons (bd (bd (mCons (pu v_start_2) (mCons (pu v_end_3) (pu ()))) fun x => zoom (fun b : (Bx × St_Document) => b.2) (fun (b : (Bx × St_Document)) c => (b.1, c)) (m_Document_compact x.1 x.2.1)) resOk) (mCons (pu true) (mCons (pu (none : (Option (List (Tx × Tx))))) (pu ()))))))) (pu (.nx ()))) fun g12 => mThen (γ' := Unit) (fun b : (Bx × St_Document) => b) (mTryO (mThenE (γ' := Unit) (mIf (mOp gEqS (pu v_kind_here_1) (pu (5 : Int))) (bd (mRes mkL3 (mHd (bd (pu ()) fun x => zoom (fun b : (Bx × St_Document) => b.2) (fun (b : (Bx × St_Document)) c => (b.1, c)) m_Document_undo) (mCons (pu false) (mCons (pu (none : (Option (List (Tx × Tx))))) (pu ()))))) fun r => pu (.rt r)) (pu (.nx ()))) fun _ => bd (mRes mkL3 (mHd (bd (pu ()) fun x => zoom (fun b : (Bx × St_Document) => b.2) (fun (b : (Bx × St_Document)) c => (b.1, c)) m_Document_redo) (mCons (pu false) (mCons (pu (none : (Option (List (Tx × Tx))))) (pu ()))))) fun r => pu (.rt r)) (mRet (mMap mkL3 ((mCons (pu (none : (Option (T3 Int Int Tx)))) (mCons (pu true) (mCons (pu (none : (Option (List (Tx × Tx))))) (pu ())))))))) fun g13 => pu (.nx ())
def m_law_deed  : M (Bx × St_Document) (Bx × St_Document) (L3 (Option (T3 Int Int Tx)) Bool (Option (List (Tx × Tx)))) := retM (mb_law_deed )

def mb_law_all (v_text : Tx) (v_which : Int) : M St_Document St_Document (Fl Unit (Option Tx)) :=
  mThen (fun b : St_Document => b) (bd (mMapO gRange1 (mCons (pu (40 : Int)) (pu ()))) fun xs => loopM (fun (c1 : Tx) (x2 : Int) => mThen (γ' := Tx) (fun b : St_Document => b) (mTryO (mIf (mOp gEqS (pu v_which) (pu (0 : Int))) (mErr (γ' := Unit) (mCa (bd (pu c1) fun x => mRes (fun y => (x, y)) (mHd (bd (pu ()) fun x => zoom (fun b : St_Document => b) (fun (b : St_Document) c => c) m_Document_undo) (pu ()))) (fun x => m_changed x.1 x.2.1)) (fun v_text_4 => pu (.nx v_text_4))) (mErr (γ' := Unit) (mCa (bd (pu c1) fun x => mRes (fun y => (x, y)) (mHd (bd (pu ()) fun x => zoom (fun b : St_Document => b) (fun (b : St_Document) c => c) m_Document_redo) (pu ()))) (fun x => m_changed x.1 x.2.1)) (fun v_text_5 => pu (.nx v_text_5)))) (mRet (mMap some (pu c1)))) fun g3 => pu (.nx g3)) xs v_text) fun g6 => mRet (pu (none : (Option Tx)))
def m_law_all (v_text : Tx) (v_which : Int) : M St_Document St_Document (Option Tx) := retM (mb_law_all v_text v_which)

def mb_law (v_script : Scr) : M Unit Unit (Fl Unit Bool) :=
  bd (bd (mCons (pu v_script) (mCons (pu (0 : Int)) (mCons (pu (63 : Int)) (pu ())))) fun x => zoom (fun _ => ()) (fun b _ => b) (m_law_row x.1 x.2.1 x.2.2.1)) fun r => newB (bd (bd (pu ()) fun x => zoom (fun b : Bx => b) (fun (b : Bx) c => c) m_law_part) fun v_first_1 => bd (mCons (pu v_first_1) (pu ())) fun x => fun b => ((m_Document___init x.1) ()).bind fun r => (bd (bd (pu ()) fun x => zoom (fun b : (Bx × St_Document) => b.2) (fun (b : (Bx × St_Document)) c => (b.1, c)) m_Document_text) fun v_text_2 => bd (pu v_text_2) fun v_begin_3 => mThen (fun _ : (Bx × St_Document) => ()) (bd (mMapO gRange1 (mCons (bd (mCons (pu (31 : Int)) (pu ())) fun x => zoom (fun b : (Bx × St_Document) => b.1) (fun (b : (Bx × St_Document)) c => (c, b.2)) (m_law_draw x.1)) (pu ()))) fun xs => loopM (fun (c4 : Tx) (x5 : Int) => bd (bd (pu ()) fun x => zoom (fun b : (Bx × St_Document) => b) (fun (b : (Bx × St_Document)) (c : (Bx × St_Document)) => c) m_law_deed) fun t6 => mThen (fun b : (Bx × St_Document) => b) (mIf (mOr (mAnd (mMapO (fun x : Bool => some x) (pu t6.b)) (mOp (fun (x : (Option (T3 Int Int Tx))) (_ : Unit) => some x.isSome) (pu t6.a) (pu ()))) (mAnd (mOp (fun (x : (Option (List (Tx × Tx)))) (_ : Unit) => some x.isSome) (pu t6.c) (pu ())) (mOp gNeD (bd (pu ()) fun x => zoom (fun b : (Bx × St_Document) => b.2) (fun (b : (Bx × St_Document)) c => (b.1, c)) m_Document_content) (pu t6.c)))) (mRet (pu false)) (pu (.nx ()))) fun g7 => bd (bd (mCons (pu c4) (mCons (pu t6.a) (pu ()))) fun x => zoom (fun _ => ()) (fun b _ => b) (m_changed x.1 x.2.1)) fun v_text_8 => mThen (fun b : (Bx × St_Document) => b) (mIf (mOr (mOp gNeS (pu v_text_8) (bd (pu ()) fun x => zoom (fun b : (Bx × St_Document) => b.2) (fun (b : (Bx × St_Document)) c => (b.1, c)) m_Document_text)) (mOp gNeS (pu v_text_8) (mOp (fun (x : (LP Tx (List Int))) (i : Int) => gK x.a 0 i) (bd (mCons (bd (mCons (bd (pu ()) fun x => zoom (fun b : (Bx × St_Document) => b.2) (fun (b : (Bx × St_Document)) c => (b.1, c)) m_Document_content) (pu ())) fun x => zoom (fun _ => ()) (fun b _ => b) (m_law_units x.1)) (pu ())) fun x => zoom (fun _ => ()) (fun b _ => b) (m_law_shown x.1)) (pu (0 : Int))))) (mRet (pu false)) (pu (.nx ()))) fun g9 => pu (.nx v_text_8)) xs v_text_2) fun g10 => bd (bd (mCons (pu g10) (mCons (pu (1 : Int)) (pu ()))) fun x => zoom (fun b : (Bx × St_Document) => b.2) (fun (b : (Bx × St_Document)) c => (b.1, c)) (m_law_all x.1 x.2.1)) fun v_forth_11 => bd (bd (pu ()) fun x => zoom (fun b : (Bx × St_Document) => b.2) (fun (b : (Bx × St_Document)) c => (b.1, c)) m_Document_text) fun v_last_12 => bd (bd (mCons (mMapO (fun x : (Option Tx) => x) (pu v_forth_11)) (mCons (pu (0 : Int)) (pu ()))) fun x => zoom (fun b : (Bx × St_Document) => b.2) (fun (b : (Bx × St_Document)) c => (b.1, c)) (m_law_all x.1 x.2.1)) fun v_back_13 => mThen (fun _ : (Bx × St_Document) => ()) (mIf (mOr (mOp gNeS (pu v_forth_11) (pu v_last_12)) (mOr (mOp gNeS (pu v_back_13) (pu v_begin_3)) (mOp gNeD (bd (pu ()) fun x => zoom (fun b : (Bx × St_Document) => b.2) (fun (b : (Bx × St_Document)) c => (b.1, c)) m_Document_content) (pu v_first_1)))) (mRet (pu false)) (pu (.nx ()))) fun g14 => mRetD (fun _ : (Bx × St_Document) => ()) (mOp gEqS (bd (mCons (mMapO (fun x : (Option Tx) => x) (pu v_back_13)) (mCons (pu (1 : Int)) (pu ()))) fun x => zoom (fun b : (Bx × St_Document) => b.2) (fun (b : (Bx × St_Document)) c => (b.1, c)) (m_law_all x.1 x.2.1)) (pu v_last_12))) (b, r.1)) r
def m_law (v_script : Scr) : M Unit Unit Bool := retM (mb_law v_script)
end My

namespace My
open PySem L2 Tw
/-! ### the law's draws -/
theorem gMod_ok {x y : Int} (h : 0 < y) : gMod x y = some (x % y) := if_pos h
theorem gDiv_ok {x y : Int} (h : 0 < y ∧ y < 1073741824) : gDiv x y = some (x / y) := if_pos h
theorem gMul_ok {x y : Int} (h : -(2 ^ 64) < y ∧ y < 2 ^ 64) : gMul x y = some (x * y) := if_pos (.inr h)
theorem gMul_ok' {x y : Int} (h : -(2 ^ 64) < x ∧ x < 2 ^ 64) : gMul x y = some (x * y) := if_pos (.inl h)
theorem draw_ok {n : Int} (h : 0 < n) : Tot BxOk (m_law_draw n) fun v => 0 ≤ v ∧ v < n := fun b i => by
  obtain ⟨row, at_⟩ := b
  have i : 0 ≤ at_ := i
  have mod : ∀ v : Int, 0 ≤ v % n ∧ v % n < n := fun v => ⟨Int.emod_nonneg _ (by omega), Int.emod_lt_of_pos _ h⟩
  unfold m_law_draw mb_law_draw
  by_cases hl : at_ < (row.length : Int)
  · have e : atI row at_ = some row[at_.toNat] := by
      rw [atI_of (k := at_.toNat) (by omega), List.getElem?_eq_getElem (by omega)]
    refine ⟨row[at_.toNat] % n, (row, at_ + 1), ?_, (show 0 ≤ at_ + 1 by omega), mod _⟩
    simp [bd, mOp, mMapO, mCons, mThen, mIf, mRet, retM, pu, ov, gB, gI, hl, e, gMod_ok h]
  · refine ⟨(at_ * 5 + 1) % n, (row, at_ + 1), ?_, (show 0 ≤ at_ + 1 by omega), mod _⟩
    simp [bd, mOp, mMapO, mCons, mThen, mIf, mRet, retM, pu, ov, gB, gI, hl, gMod_ok h, gMul_ok (show -(2 ^ 64) < (5 : Int) ∧ (5 : Int) < 2 ^ 64 by decide)]
theorem cell_ok (ns : List Int) {k : Int} (h : 0 ≤ k) : ∃ v, m_law_cell ⟨ns⟩ k = pu v := by
  unfold m_law_cell mb_law_cell
  by_cases hl : k < (ns.length : Int)
  · have e : atI ns k = some ns[k.toNat] := by
      rw [atI_of (k := k.toNat) (by omega), List.getElem?_eq_getElem (by omega)]
    exact ⟨ns[k.toNat], by simp [gB, hl, e]⟩
  · exact ⟨0, by simp [gB, hl]⟩
theorem gApp_ok {l : List Int} {x : Int} (h : l.length < line) : gApp l x = some (l ++ [x]) := if_pos h
theorem row_ok (ns : List Int) (n : Int) (h : 0 ≤ n ∧ n ≤ 63) : ∃ r, m_law_row ⟨ns⟩ 0 n = pu r := by
  have key : Tri (fun _ : Unit => True) (m_law_row ⟨ns⟩ 0 n) fun r _ => True := by
    unfold m_law_row mb_law_row
    refine .retM (.newM (.then (J := fun _ _ => True) (.bd (Q := fun xs b => xs = rangeI 0 n ∧ b.2.length = 0) ?_ fun xs => .of (fun b h => h.1) fun e => ?_) fun g => .frzM fun l => (by rw [mRet_pu]; exact .pu fun _ _ => ⟨l, rfl, trivial⟩)))
    · simp only [mCons_pu, mMapO_pu, gRange2, ck62_ok (show -(2 ^ 62) ≤ (0 : Int) ∧ (0 : Int) < 2 ^ 62 by decide), ck62_ok (show -(2 ^ 62) ≤ n ∧ n < 2 ^ 62 by omega), Option.bind_some, Option.map_some, ov_get]
      exact .pu fun b hb => ⟨rfl, by rw [hb.2]; rfl⟩
    · subst e
      have hn : (rangeI 0 n).length ≤ 63 := by rw [rangeI_len]; omega
      refine ((Tri.loop (J := fun i _ b => b.2.length ≤ 60 * i) (rangeI 0 n) 0 fun j c x hx => ?_).pre fun b hb => by rw [hb.2]; exact Nat.zero_le _).imp fun o b ⟨c, e, _⟩ => ⟨c, e, trivial⟩
      have hj : j < 63 := by
        have := (List.getElem?_eq_some_iff.mp hx).1
        omega
      have hx0 : 0 ≤ x := (mem_rangeI (List.mem_of_getElem? hx)).1
      obtain ⟨v, hv⟩ := cell_ok ns hx0
      simp only [mCons_pu, bd_pu, hv, zoomU_pu, mOp_pu, mMapO_pu, gMul_ok' (show -(2 ^ 64) < (2 : Int) ∧ (2 : Int) < 2 ^ 64 by decide), ov_get, gAbs, gIntB, gB, gI, mIf_pu, show gPow 10 18 = some (10 ^ 18) from rfl, Nat.zero_add]
      generalize (if 2 * v < 0 then -(2 * v) else 2 * v) + _ = y
      have hln : 60 * 63 < line := by decide
      refine .then (J := fun _ b => b.2.length ≤ 60 * (j + 1)) (.ite (fun _ => ?_) fun _ => ?_) fun g => .pu fun b hb => ⟨(), rfl, hb⟩
      · refine .then (J := fun _ b => b.2.length ≤ 60 * (j + 1)) ?_ fun g => .pu fun b hb => ⟨(), rfl, hb⟩
        simp only [gRange1, ck62_ok (show -(2 ^ 62) ≤ (60 : Int) ∧ (60 : Int) < 2 ^ 62 by decide), Option.map_some, ov_get, bd_pu]
        refine (Tri.loop (β := Unit × List Int) (J := fun i (_ : Int) b => b.2.length ≤ 60 * j + i) (rangeI 0 60) 0 fun k c z hz => ?_).imp fun o b hb => ?_
        rotate_left
        · obtain ⟨c, e, hb⟩ := hb
          exact ⟨c, e, by rw [rangeI_len] at hb; simp at hb; omega⟩
        have hk : k < 60 := by
          have := (List.getElem?_eq_some_iff.mp hz).1
          rw [rangeI_len] at this
          simpa using this
        refine .then (J := fun _ b => b.2.length ≤ 60 * j + (0 + k + 1)) (.ite (fun _ => ?_) fun _ => .pu fun b hb => ⟨_, rfl, by omega⟩) fun g => .pu fun b hb => ⟨_, rfl, hb⟩
        simp only [gMod_ok (show (0 : Int) < 840 by decide), gDiv_ok (show (0 : Int) < 840 ∧ (840 : Int) < 1073741824 by decide), ov_get, bd_pu]
        exact .bd (Q := fun _ b => b.2.length ≤ 60 * j + (0 + k + 1)) (.upd fun b hb => ⟨_, gApp_ok (by omega), by simp; omega⟩) fun _ => .pu fun b hb => ⟨_, rfl, hb⟩
      · refine .then (J := fun _ b => b.2.length ≤ 60 * (j + 1)) ?_ fun g => .pu fun b hb => ⟨(), rfl, hb⟩
        simp only [gRange1, ck62_ok (show -(2 ^ 62) ≤ (10 : Int) ∧ (10 : Int) < 2 ^ 62 by decide), Option.map_some, ov_get, bd_pu]
        refine (Tri.loop (β := Unit × List Int) (J := fun i (_ : Int) b => b.2.length ≤ 60 * j + i) (rangeI 0 10) 0 fun k c z hz => ?_).imp fun o b hb => ?_
        rotate_left
        · obtain ⟨c, e, hb⟩ := hb
          exact ⟨c, e, by rw [rangeI_len] at hb; simp at hb; omega⟩
        have hk : k < 10 := by
          have := (List.getElem?_eq_some_iff.mp hz).1
          rw [rangeI_len] at this
          simpa using this
        simp only [gMul_ok (show -(2 ^ 64) < (69069 : Int) ∧ (69069 : Int) < 2 ^ 64 by decide), gMul_ok' (show -(2 ^ 64) < (104729 : Int) ∧ (104729 : Int) < 2 ^ 64 by decide), ov_get, bd_pu, mOp_pu, mCons_pu, mMapO_pu, gMod_ok (show (0 : Int) < 4294967291 by decide), gMod_ok (show (0 : Int) < 840 by decide), gDiv_ok (show (0 : Int) < 5003 ∧ (5003 : Int) < 1073741824 by decide)]
        exact .bd (Q := fun _ b => b.2.length ≤ 60 * j + (0 + k + 1)) (.upd fun b hb => ⟨_, gApp_ok (by omega), by simp; omega⟩) fun _ => .pu fun b hb => ⟨_, rfl, hb⟩
  obtain ⟨r, e, _⟩ := key.pure_
  exact ⟨r, e⟩
/-! ### kinds -/
def kindF (m s : Tx) : Tx :=
  if s = [32] then (if m = ([112, 114, 101, 115, 101, 114, 118, 101] : Tx) then ([111, 116, 104, 101, 114] : Tx) else ([115, 112, 97, 99, 101] : Tx)) else if s = [10] then (if m = ([99, 111, 108, 108, 97, 112, 115, 101] : Tx) then ([102, 101, 101, 100] : Tx) else ([101, 110, 100] : Tx)) else if s = [124] then ([101, 110, 100] : Tx) else if s = [94] then ([122, 101, 114, 111] : Tx)
  else if s = [60] ∨ s = [62] then ([109, 97, 114, 107] : Tx) else if ∃ c ∈ ([65, 66, 67, 68, 69, 70, 71, 72, 73, 74, 75, 76, 77, 78, 79, 80, 81, 82, 83, 84, 85, 86, 87, 88, 89, 90] : Tx), s = [c] then ([119, 105, 100, 101] : Tx) else ([111, 116, 104, 101, 114] : Tx)
def kindU (u : Tx × Tx) : Tx := kindF u.1 u.2
theorem mem1 {c : Nat} {l : Tx} : (∃ d ∈ l, [c] = [d]) ↔ c ∈ l := ⟨fun ⟨d, h, e⟩ => by cases e; exact h, fun h => ⟨c, h, rfl⟩⟩
theorem kind_eq (m : Tx) (c : Nat) : m_kind m [c] = pu (kindF m [c]) := by
  unfold m_kind mb_kind kindF
  simp only [mOp_pu, gEqS_tx, ov_get, mIf_pu, decide_eq_true_eq, mem1]
  by_cases h1 : ([c] : Tx) = [32]
  · by_cases h0 : m = ([112, 114, 101, 115, 101, 114, 118, 101] : Tx) <;> simp [h1, h0]
  by_cases h2 : ([c] : Tx) = [10]
  · by_cases h0 : m = ([99, 111, 108, 108, 97, 112, 115, 101] : Tx) <;> simp [h2, h0]
  by_cases h3 : ([c] : Tx) = [124]
  · simp [h3]
  by_cases h4 : ([c] : Tx) = [94]
  · simp [h4]
  have h5 : decide (c ∈ ([60, 62] : Tx)) = decide (([c] : Tx) = [60] ∨ ([c] : Tx) = [62]) := by simp
  by_cases h6 : ([c] : Tx) = [60] ∨ ([c] : Tx) = [62]
  · simp only [h1, h2, h3, h4, if_false, mThen_nx, gInS, h5, h6, decide_true, ov_get, mIf_pu, if_true, mRet_pu, mThen_rt, rtD_id, retM_rt]
  · simp only [h1, h2, h3, h4, if_false, mThen_nx, gInS, h5, h6, decide_false, ov_get, mIf_pu, Bool.false_eq_true, decide_eq_true_eq]
    by_cases h7 : c ∈ ([65, 66, 67, 68, 69, 70, 71, 72, 73, 74, 75, 76, 77, 78, 79, 80, 81, 82, 83, 84, 85, 86, 87, 88, 89, 90] : Tx)
    · rw [if_pos h7, if_pos h7, mRet_pu, retM_rt]
    · rw [if_neg h7, if_neg h7, mRet_pu, retM_rt]
theorem chk2 {α : Type} (a b : α) : chk [a, b] = some [a, b] := chk_ok (by show 2 ≤ line; decide)
theorem chk3 {α : Type} (a b c : α) : chk [a, b, c] = some [a, b, c] := chk_ok (by show 3 ≤ line; decide)
theorem ix20 {a b : Tx} : atI [a, b] (0 : Int) = some a := rfl
theorem ix21 {a b : Tx} : atI [a, b] (1 : Int) = some b := rfl
theorem ix2 {a b : Tx} {p : Bool} : atI [a, b] (if p then 1 else 0 : Int) = some (if p then b else a) := by cases p <;> rfl
theorem disp_eq {c : Nat} (h : c ∈ ([124, 94, 60, 62] : Tx)) : gDGet (DT.mk [("|", "end"), ("^", "zero"), ("<", "mark"), (">", "mark")]) [c] = some (if c = 124 then ([101, 110, 100] : Tx) else if c = 94 then ([122, 101, 114, 111] : Tx) else ([109, 97, 114, 107] : Tx)) := by
  have : c = 124 ∨ c = 94 ∨ c = 60 ∨ c = 62 := by simpa using h
  rcases this with rfl | rfl | rfl | rfl <;> decide +kernel
theorem lkind_eq (m : Tx) (c : Nat) : m_law_kind (m, [c]) = pu (kindF m [c]) := by
  unfold m_law_kind mb_law_kind kindF
  simp only [mOp_pu, gK, if_true, ov_get, bd_pu, gEqS_tx, mIf_pu, decide_eq_true_eq, mem1, mConsL_pu, mMapO_pu, chk2, mCons_pu, gIntB, ix2]
  by_cases h1 : ([c] : Tx) = [32]
  · by_cases h0 : m = ([112, 114, 101, 115, 101, 114, 118, 101] : Tx) <;> simp [h1, h0, ix20, ix21]
  by_cases h2 : ([c] : Tx) = [10]
  · by_cases h0 : m = ([99, 111, 108, 108, 97, 112, 115, 101] : Tx) <;> simp [h2, h0, ix20, ix21]
  by_cases h3 : c ∈ ([124, 94, 60, 62] : Tx)
  · simp only [h1, h2, if_false, mThen_nx, gInS, h3, decide_true, ov_get, mIf_pu, if_true, disp_eq h3, mRet_pu, mThen_rt, rtD_id, retM_rt]
    have : c = 124 ∨ c = 94 ∨ c = 60 ∨ c = 62 := by simpa using h3
    rcases this with rfl | rfl | rfl | rfl <;> rfl
  · have n : c ≠ 124 ∧ c ≠ 94 ∧ c ≠ 60 ∧ c ≠ 62 := by simpa using h3
    simp only [h1, h2, if_false, mThen_nx, gInS, h3, decide_false, ov_get, mIf_pu, Bool.false_eq_true, mMapO_pu, mCons_pu, gIntB, mOp_pu, ix2, mRet_pu, retM_rt]
    simp [n]
/-! ### lists -/
theorem mLc_map {β α γ : Type} {e : α → M β β γ} {g : α → γ} {xs : List α} (hl : xs.length ≤ line) (h : ∀ x ∈ xs, e x = pu (g x)) : mLc (pu xs) (fun _ => pu true) e = pu (xs.map g) := by
  unfold mLc
  rw [mMapO_pu, chk_ok hl, ov_get, bd_pu, compM_pure (p := fun _ => true) (g := g) (fun _ _ => rfl) fun x hx _ => h x hx]
  rw [List.filter_eq_self.mpr fun _ _ => rfl]
theorem mLc_fil {β α : Type} {t : α → M β β Bool} {p : α → Bool} {xs : List α} (hl : xs.length ≤ line) (h : ∀ x ∈ xs, t x = pu (p x)) : mLc (pu xs) t (fun x => pu x) = pu (xs.filter p) := by
  unfold mLc
  rw [mMapO_pu, chk_ok hl, ov_get, bd_pu, compM_pure (p := p) (g := fun x => x) h fun x hx _ => rfl]
  rw [List.map_id']
theorem comp2_pure {β α α1 γ : Type} {mi : α → M β β (List α1)} {e : α → α1 → M β β γ} {g : α → List α1} {h : α → α1 → γ} : ∀ {xs : List α}, (∀ x ∈ xs, mi x = pu (g x)) → (∀ x ∈ xs, ∀ y ∈ g x, e x y = pu (h x y)) → comp2M mi e xs = pu (xs.flatMap fun x => (g x).map (h x))
  | [], _, _ => rfl
  | x :: xs, h1, h2 => by
    show bd (mi x) _ = _
    rw [h1 x List.mem_cons_self, bd_pu, compM_pure (p := fun _ => true) (g := h x) (fun _ _ => rfl) fun y hy _ => h2 x List.mem_cons_self y hy, bd_pu, comp2_pure (fun y hy => h1 y (List.mem_cons_of_mem _ hy)) (fun y hy => h2 y (List.mem_cons_of_mem _ hy)), bd_pu]
    rw [List.filter_eq_self.mpr fun _ _ => rfl]
    rfl
/-! ### units -/
def unitsF (fr : List (Tx × Tx)) : List (Tx × Tx) := fr.flatMap fun p => (signs p.2).map fun s => (p.1, s)
theorem units_eq {fr : List (Tx × Tx)} (h : (unitsF fr).length ≤ line) : m_units fr = pu (unitsF fr) := by
  unfold m_units mb_units mLc2
  rw [bd_pu, comp2_pure (g := fun p => signs p.2) (h := fun p s => (p.1, s)) (fun x _ => by rw [mMap_pu]) (fun x _ y _ => by rw [mCons_pu, mCons_pu, mMap_pu]; rfl), bd_pu]
  show retM (mRet (ov (chk (unitsF fr)))) = _
  rw [chk_ok h, ov_get, mRet_pu, retM_rt]
def OneU (us : List (Tx × Tx)) : Prop := ∀ u ∈ us, ∃ c, u.2 = [c]
theorem unitsF_one (fr : List (Tx × Tx)) : OneU (unitsF fr) := fun u hu => by
  obtain ⟨p, _, hu⟩ := List.mem_flatMap.mp hu
  obtain ⟨s, hs, rfl⟩ := List.mem_map.mp hu
  obtain ⟨c, _, rfl⟩ := List.mem_map.mp hs
  exact ⟨c, rfl⟩
theorem lunits_loop {body : Unit → Tx × Tx → M (Unit × List (Tx × Tx)) (Unit × List (Tx × Tx)) (Fl Unit (List (Tx × Tx)))} (hb : ∀ x u acc, acc.length + x.2.length ≤ line → body () x (u, acc) = some (.nx (), (u, acc ++ (signs x.2).map fun s => (x.1, s)))) : ∀ (fr : List (Tx × Tx)) (u : Unit) (acc : List (Tx × Tx)), acc.length + (unitsF fr).length ≤ line → loopM body fr () (u, acc) = some (.nx (), (u, acc ++ unitsF fr))
  | [], u, acc, _ => by rw [show unitsF [] = [] from rfl, List.append_nil]; rfl
  | x :: fr, u, acc, h => by
    have e : unitsF (x :: fr) = ((signs x.2).map fun s => (x.1, s)) ++ unitsF fr := rfl
    have hl : (unitsF (x :: fr)).length = x.2.length + (unitsF fr).length := by rw [e, List.length_append, List.length_map]; simp [signs]
    show bd (body () x) _ (u, acc) = _
    rw [bd_ap (hb x u acc (by omega))]
    have := lunits_loop hb fr u (acc ++ (signs x.2).map fun s => (x.1, s)) (by rw [List.length_append, List.length_map]; simp only [signs, List.length_map]; omega)
    rw [e, ← List.append_assoc]
    exact this
theorem lunits_eq {fr : List (Tx × Tx)} (h : (unitsF fr).length ≤ line) : m_law_units fr = pu (unitsF fr) := by
  funext b
  unfold m_law_units mb_law_units
  simp only [bd_pu, mMap_pu, mCons_pu]
  unfold retM
  rw [bd_ap (x := .rt (unitsF fr)) (b1 := ())]
  rw [newM_ap]
  unfold mThen
  rw [bd_ap (lunits_loop ?_ fr b [] (by simpa using h))]
  · rfl
  · intro x u acc hl
    have e : mLc (pu (signs x.2)) (fun _ => pu true) (fun x3 : Tx => pu (β := Unit × List (Tx × Tx)) (pr2 (x.1, x3, ()))) = pu ((signs x.2).map fun s => (x.1, s)) := mLc_map (by simp only [signs, List.length_map]; omega) fun _ _ => rfl
    rw [e, bd_pu]
    refine (bd_ap (x := ()) (b1 := (u, acc ++ (signs x.2).map fun s => (x.1, s))) ?_).trans rfl
    unfold mUpd gExt
    show Option.map _ (if acc.length + ((signs x.2).map fun s => (x.1, s)).length ≤ line then _ else _) = _
    rw [if_pos (by simp only [signs, List.length_map]; omega)]
    rfl
theorem pkindU_eq {u : Tx × Tx} (h : ∃ c, u.2 = [c]) : m_kind u.1 u.2 = pu (kindU u) := by
  obtain ⟨m, s⟩ := u
  obtain ⟨c, e⟩ := h
  have e : s = [c] := e
  subst e
  exact kind_eq m c
theorem kindU_eq {u : Tx × Tx} (h : ∃ c, u.2 = [c]) : m_kind u.1 u.2 = pu (kindU u) ∧ m_law_kind u = pu (kindU u) := by
  obtain ⟨m, s⟩ := u
  obtain ⟨c, e⟩ := h
  have e : s = [c] := e
  subst e
  exact ⟨kind_eq m c, lkind_eq m c⟩
theorem kinds_eq {us : List (Tx × Tx)} (h : OneU us) (hl : us.length ≤ line) : m_kinds us = pu (us.map kindU) := by
  unfold m_kinds mb_kinds
  rw [mLc_map (g := kindU) hl fun x hx => ?_]
  · rw [mRet_pu, retM_rt]
  · rw [mCons_pu, mCons_pu, bd_pu]
    show zoom _ _ (m_kind x.1 x.2) = _
    rw [pkindU_eq (h x hx), zoomU_pu]
theorem solid_eq (k : Tx) : m_is_solid k = pu (!decide (k ∈ [([115, 112, 97, 99, 101] : Tx), ([102, 101, 101, 100] : Tx), ([109, 97, 114, 107] : Tx)])) := by
  unfold m_is_solid mb_is_solid
  simp only [mConsL_pu, mMapO_pu, chk3, ov_get, mMap_pu, mOp_pu, gNotInT, inB_tx, Option.map_some, mRet_pu, retM_rt]
/-! ### gaps -/
def stepF (d : GsT) (x : Int × Tx) : GsT := if x.2 ∈ [([115, 112, 97, 99, 101] : Tx), ([102, 101, 101, 100] : Tx), ([109, 97, 114, 107] : Tx)] then (d.1, d.2.1 ++ [x.1], d.2.2) else (d.1 ++ [⟨d.2.1, d.2.2, some x.2⟩], [], some x.2)
def toGp (g : Lg) : Gp := ⟨g.l, g.r, g.ns⟩
def gapsF (l0 r0 : Option Tx) (ks : List Tx) : List Lg := ((enumL (ks, ())).foldl stepF ([], [], l0)).1 ++ [⟨((enumL (ks, ())).foldl stepF ([], [], l0)).2.1, ((enumL (ks, ())).foldl stepF ([], [], l0)).2.2, r0⟩]
theorem stepF_len (d : GsT) (x : Int × Tx) : (stepF d x).1.length + (stepF d x).2.1.length ≤ d.1.length + d.2.1.length + 1 := by
  unfold stepF
  split <;> simp <;> omega
theorem pgaps_loop {body : Option Tx → Int × Tx → M ((Unit × List Gp) × List Int) ((Unit × List Gp) × List Int) (Option Tx)}
    (hb : ∀ (d : GsT) (x : Int × Tx), d.1.length + d.2.1.length < line → body d.2.2 x (((), d.1.map toGp), d.2.1) = some ((stepF d x).2.2, (((), (stepF d x).1.map toGp), (stepF d x).2.1))) :
    ∀ (ps : List (Int × Tx)) (d : GsT), d.1.length + d.2.1.length + ps.length ≤ line → foldX body ps d.2.2 (((), d.1.map toGp), d.2.1) = some ((ps.foldl stepF d).2.2, (((), (ps.foldl stepF d).1.map toGp), (ps.foldl stepF d).2.1))
  | [], d, _ => rfl
  | x :: ps, d, h => by
    have h' : d.1.length + d.2.1.length + (ps.length + 1) ≤ line := h
    show bd (body d.2.2 x) _ _ = _
    rw [bd_ap (hb d x (by omega))]
    have := stepF_len d x
    exact pgaps_loop hb ps (stepF d x) (by omega)
theorem fold_len : ∀ (ps : List (Int × Tx)) (d : GsT), (ps.foldl stepF d).1.length + (ps.foldl stepF d).2.1.length ≤ d.1.length + d.2.1.length + ps.length
  | [], d => by simp
  | x :: ps, d => by
    have := fold_len ps (stepF d x)
    have := stepF_len d x
    rw [List.foldl_cons, List.length_cons]
    omega
theorem enumL_len {α : Type} (ks : List α) : (enumL (ks, ())).length = ks.length := by simp [enumL]
theorem pgaps_eq {ks : List Tx} {l0 : Option Tx} (h : ks.length < line) : m_gaps_of ks l0 = pu ((gapsF l0 l0 ks).map toGp) := by
  funext b
  unfold m_gaps_of mb_gaps_of retM
  refine (bd_ap (x := .rt ((gapsF l0 l0 ks).map toGp)) (b1 := b) ?_).trans rfl
  simp only [bd_pu, mMap_pu, mCons_pu, newM_ap]
  have hlen := enumL_len ks
  refine (bd_ap (pgaps_loop ?_ (enumL (ks, ())) ([], [], l0) (by simp only [List.length_nil]; omega))).trans ?_
  rotate_left
  · have hl := fold_len (enumL (ks, ())) ([], [], l0)
    have hl' : ((enumL (ks, ())).foldl stepF ([], [], l0)).1.length < line := by
      have z : (([], [], l0) : GsT).1.length = 0 := rfl
      have z2 : (([], [], l0) : GsT).2.1.length = 0 := rfl
      omega
    unfold gapsF
    generalize (enumL (ks, ())).foldl stepF ([], [], l0) = r at hl'
    rw [frzM_ap]
    refine (bd_ap (x := ()) (b1 := ((), r.1.map toGp ++ [⟨r.2.2, l0, r.2.1⟩])) ?_).trans ?_
    · unfold mUpd gApp
      show Option.map _ (if (r.1.map toGp).length < line then _ else _) = _
      rw [if_pos (by rw [List.length_map]; exact hl')]
      rfl
    · rw [frzM_ap, mRet_pu]
      show some _ = some _
      rw [List.map_append]
      rfl
  · intro d x hd
    rw [solid_eq, zoomU_pu, mMapO_pu, ov_get, mIf_pu]
    unfold stepF
    by_cases hx : x.2 ∈ [([115, 112, 97, 99, 101] : Tx), ([102, 101, 101, 100] : Tx), ([109, 97, 114, 107] : Tx)]
    · rw [if_neg (by simp [hx]), if_pos hx]
      refine (bd_ap (x := ()) (b1 := (((), d.1.map toGp), d.2.1 ++ [x.1])) ?_).trans rfl
      unfold mUpd gApp
      show Option.map _ (if d.2.1.length < line then _ else _) = _
      rw [if_pos (by omega)]
      rfl
    · rw [if_pos (by simp [hx]), if_neg hx, frzM_ap]
      refine (bd_ap (x := ()) (b1 := ((), d.1.map toGp ++ [⟨d.2.2, some x.2, d.2.1⟩])) ?_).trans ?_
      · unfold mUpd gApp
        show Option.map _ (if (d.1.map toGp).length < line then _ else _) = _
        rw [if_pos (by rw [List.length_map]; omega)]
        rfl
      · show some _ = some _
        rw [List.map_append]
        rfl
theorem range1_ok {n : Int} (h : 0 ≤ n ∧ n < 1000000) : gRange1 (n, ()) = some (rangeI 0 n) := by
  have : (1000000 : Int) < 2 ^ 62 := by decide
  unfold gRange1
  rw [show ck62 (n, ()).1 = some n from ck62_ok ⟨by omega, by omega⟩]
  rfl
theorem enum_fst {α : Type} (ks : List α) : (enumL (ks, ())).map (·.1) = rangeI 0 (ks.length : Int) := by
  unfold enumL rangeI
  rw [List.map_fst_zip (by simp)]
  simp
theorem enum_at {α : Type} {ks : List α} {x : Int × α} (h : x ∈ enumL (ks, ())) : atI ks x.1 = some x.2 := by
  obtain ⟨i, hi⟩ := List.mem_iff_getElem?.mp h
  unfold enumL at hi
  rw [List.getElem?_zip_eq_some] at hi
  obtain ⟨h1, h2⟩ := hi
  rw [List.getElem?_map] at h1
  obtain ⟨j, hj, e⟩ := Option.map_eq_some_iff.mp h1
  have : j = i := by
    have := List.getElem?_eq_some_iff.mp hj
    obtain ⟨h3, h4⟩ := this
    simpa using h4.symm
  subst this
  rw [atI_of e.symm]
  exact h2
theorem lgaps_loop {t : Int → M Unit Unit Bool} {kk : Int → M Unit Unit Tx} : ∀ (ps : List (Int × Tx)) (d : GsT), (∀ x ∈ ps, t x.1 = pu (decide (x.2 ∈ [([115, 112, 97, 99, 101] : Tx), ([102, 101, 101, 100] : Tx), ([109, 97, 114, 107] : Tx)])) ∧ kk x.1 = pu x.2) → d.1.length + d.2.1.length + ps.length < line → gsM t kk (ps.map (·.1)) d = pu (ps.foldl stepF d)
  | [], d, _, _ => rfl
  | x :: ps, d, h, hl => by
    obtain ⟨h1, h2⟩ := h x List.mem_cons_self
    have hl' : d.1.length + d.2.1.length + (ps.length + 1) < line := hl
    show bd (t x.1) _ = _
    rw [h1, bd_pu]
    have ih := lgaps_loop ps (stepF d x) (fun y hy => h y (List.mem_cons_of_mem _ hy)) (by have := stepF_len d x; omega)
    rw [List.foldl_cons, ← ih]
    unfold stepF
    by_cases hx : x.2 ∈ [([115, 112, 97, 99, 101] : Tx), ([102, 101, 101, 100] : Tx), ([109, 97, 114, 107] : Tx)]
    · rw [if_pos (decide_eq_true hx), if_pos (by omega), if_pos hx]
    · rw [if_neg (by simp [hx]), h2, bd_pu, bd_pu, if_pos (by omega), if_neg hx]
theorem lgaps_eq {us : List (Tx × Tx)} (h : OneU us) (hl : us.length ≤ 100000) : m_law_gaps us = pu (gapsF none none (us.map kindU)) := by
  have big : 100000 < line := by decide
  unfold m_law_gaps mGaps
  rw [mLc_map (g := kindU) (by omega) fun x hx => ?_]
  · rw [bd_pu]
    simp only [mCons_pu, mMapO_pu, ov_get]
    rw [range1_ok ⟨by omega, by omega⟩, ov_get, bd_pu]
    have e : rangeI 0 (us.length : Int) = (enumL (us.map kindU, ())).map (·.1) := by rw [enum_fst, List.length_map]
    rw [e, lgaps_loop (enumL (us.map kindU, ())) ([], [], none) (fun x hx => ?_) ?_, bd_pu]
    · rfl
    · rw [enumL_len, List.length_map]
      show 0 + 0 + us.length < line
      omega
    · have at_ := enum_at hx
      constructor
      · simp only [mOp_pu, at_, ov_get, mConsL_pu, mMapO_pu, chk3, mMap_pu, gInT, inB_tx]
      · simp only [mOp_pu, at_, ov_get]
  · rw [mCons_pu, bd_pu, (kindU_eq (h x hx)).2, zoomU_pu]
/-- the ends of all -/
theorem ends_fold : ∀ (ps : List (Int × Tx)) (c d : GsT), ((c.1 = [] ∧ d.1 = [] ∧ c.2.1 = d.2.1 ∧ c.2.2 = none ∧ d.2.2 = some ([101, 110, 100] : Tx)) ∨ ∃ (g : Lg) (gs : List Lg), c.1 = ⟨g.ns, none, g.r⟩ :: gs ∧ d.1 = ⟨g.ns, some ([101, 110, 100] : Tx), g.r⟩ :: gs ∧ c.2 = d.2) →
    endsG ([101, 110, 100] : Tx) ((ps.foldl stepF c).1 ++ [⟨(ps.foldl stepF c).2.1, (ps.foldl stepF c).2.2, none⟩]) = some ((ps.foldl stepF d).1 ++ [⟨(ps.foldl stepF d).2.1, (ps.foldl stepF d).2.2, some ([101, 110, 100] : Tx)⟩])
  | [], c, d, h => by
    show endsG _ (c.1 ++ [⟨c.2.1, c.2.2, none⟩]) = some (d.1 ++ [⟨d.2.1, d.2.2, some _⟩])
    rcases h with ⟨h1, h2, h3, h4, h5⟩ | ⟨g, gs, h1, h2, h3⟩
    · rw [h1, h2, h3, h4, h5]
      rfl
    · rw [h1, h2, h3]
      unfold endsG
      simp
  | x :: ps, c, d, h => by
    rw [List.foldl_cons, List.foldl_cons]
    refine ends_fold ps _ _ ?_
    unfold stepF
    rcases h with ⟨h1, h2, h3, h4, h5⟩ | ⟨g, gs, h1, h2, h3⟩
    · by_cases hx : x.2 ∈ [([115, 112, 97, 99, 101] : Tx), ([102, 101, 101, 100] : Tx), ([109, 97, 114, 107] : Tx)]
      · rw [if_pos hx, if_pos hx]
        exact .inl ⟨h1, h2, by rw [h3], h4, h5⟩
      · rw [if_neg hx, if_neg hx]
        refine .inr ⟨⟨d.2.1, none, some x.2⟩, [], ?_, ?_, rfl⟩
        · rw [h1, h3, h4]; rfl
        · rw [h2, h5]; rfl
    · by_cases hx : x.2 ∈ [([115, 112, 97, 99, 101] : Tx), ([102, 101, 101, 100] : Tx), ([109, 97, 114, 107] : Tx)]
      · rw [if_pos hx, if_pos hx]
        exact .inr ⟨g, gs, h1, h2, by rw [h3]⟩
      · rw [if_neg hx, if_neg hx]
        refine .inr ⟨g, gs ++ [⟨d.2.1, d.2.2, some x.2⟩], ?_, ?_, rfl⟩
        · rw [h1, h3]; rfl
        · rw [h2]; rfl
theorem ends_eq (ks : List Tx) : endsG ([101, 110, 100] : Tx) (gapsF none none ks) = some (gapsF (some ([101, 110, 100] : Tx)) (some ([101, 110, 100] : Tx)) ks) := ends_fold _ _ _ (.inl ⟨rfl, rfl, rfl, rfl, rfl⟩)
/-! ### what a gap shows -/
def joinF (l r : Option Tx) : Bool := l.isSome && r.isSome && (decide (l = some ([122, 101, 114, 111] : Tx)) || decide (r = some ([122, 101, 114, 111] : Tx)) || (decide (l = some ([119, 105, 100, 101] : Tx)) && decide (r = some ([119, 105, 100, 101] : Tx))))
def isK (ks : List Tx) (w : Tx) (k : Int) : Bool := decide (atI ks k = some w)
def whiteF (ks : List Tx) (g : Lg) : Option Int :=
  if g.l = some ([101, 110, 100] : Tx) ∨ g.r = some ([101, 110, 100] : Tx) then none else match g.ns.find? (isK ks ([102, 101, 101, 100] : Tx)) with
  | some k => if joinF g.l g.r = true then none else some k
  | none => g.ns.find? (isK ks ([115, 112, 97, 99, 101] : Tx))
theorem join_eq (l r : Option Tx) : m_join l r = pu (joinF l r) := by
  unfold m_join mb_join joinF
  simp only [mOp_pu, ov_get, mOr_pu, mIf_pu, mRet_pu, mConsL_pu, mMapO_pu, chk2, mMap_pu, gInT, inB_otx, gEqS_otx, mAnd_pu]
  cases l with
  | none => simp
  | some l =>
    cases r with
    | none => simp
    | some r =>
      simp only [Option.isNone_some, Bool.false_eq_true, if_false, mIf_pu, mThen_nx, Option.isSome_some, Bool.true_and, List.mem_cons, List.not_mem_nil, or_false, decide_eq_true_eq]
      by_cases h1 : some ([122, 101, 114, 111] : Tx) = some l
      · simp [← h1]
      · by_cases h2 : some ([122, 101, 114, 111] : Tx) = some r
        · simp [← h2]
        · rw [if_neg (by simp [h1, h2])]
          have h1' : ¬ some l = some ([122, 101, 114, 111] : Tx) := fun z => h1 z.symm
          have h2' : ¬ some r = some ([122, 101, 114, 111] : Tx) := fun z => h2 z.symm
          by_cases h3 : some l = some ([119, 105, 100, 101] : Tx)
          · simp [h1', h2', h3]
          · simp [h1', h2', h3]
def InK (ks : List Tx) (ns : List Int) : Prop := ∀ k ∈ ns, ∃ v, atI ks k = some v
theorem fil_eq {β : Type} {ks : List Tx} {ns : List Int} {w : Tx} (h : InK ks ns) (hl : ns.length ≤ line) : mLc (β := β) (pu ns) (fun x2 : Int => mOp gEqS (ov (atI ks x2)) (pu w)) (fun x2 : Int => pu x2) = pu (ns.filter (isK ks w)) := by
  refine mLc_fil hl fun x hx => ?_
  obtain ⟨v, hv⟩ := h x hx
  rw [hv, ov_get, mOp_pu, gEqS_tx, ov_get]
  unfold isK
  rw [hv]
  congr 1
  simp
theorem fil_none {ns : List Int} {p : Int → Bool} (h : ns.find? p = none) : ns.filter p = [] := by
  rw [List.filter_eq_nil_iff]
  exact fun a ha => by simpa using List.find?_eq_none.mp h a ha
theorem fil_some {ns : List Int} {p : Int → Bool} {k : Int} (h : ns.find? p = some k) : ∃ r, ns.filter p = k :: r := by
  have this : (ns.filter p).head? = ns.find? p := List.head?_filter
  rw [h] at this
  cases e : ns.filter p with
  | nil => rw [e] at this; cases this
  | cons a r =>
    rw [e] at this
    cases this
    exact ⟨r, rfl⟩
theorem atI_cons0 {α : Type} {a : α} {r : List α} : atI (a :: r) (0 : Int) = some a := by
  exact (atI_of (xs := a :: r) (i := 0) (k := 0) rfl).trans rfl
theorem white_eq {ks : List Tx} {g : Lg} (h : InK ks g.ns) (hl : g.ns.length ≤ line) : m_white_of ks (toGp g) = pu (whiteF ks g) := by
  unfold m_white_of mb_white_of whiteF
  have e1 : (toGp g).l = g.l := rfl
  have e2 : (toGp g).r = g.r := rfl
  have e3 : (toGp g).ns = g.ns := rfl
  simp only [mMap_pu, mConsL_pu, mMapO_pu, chk2, ov_get, mOp_pu, gInT, inB_otx, mIf_pu, e1, e2, e3, mCons_pu, bd_pu, join_eq, zoomU_pu, fil_eq h hl, mRet_pu]
  by_cases h0 : g.l = some ([101, 110, 100] : Tx) ∨ g.r = some ([101, 110, 100] : Tx)
  · have h1 : some ([101, 110, 100] : Tx) ∈ [g.l, g.r] := by
      rcases h0 with z | z <;> simp [z]
    rw [if_pos (decide_eq_true h1), if_pos h0, mThen_rt, rtD_id, retM_rt]
  · have h1 : ¬ some ([101, 110, 100] : Tx) ∈ [g.l, g.r] := fun z => h0 (by
      have : some ([101, 110, 100] : Tx) = g.l ∨ some ([101, 110, 100] : Tx) = g.r := by simpa using z
      exact this.imp Eq.symm Eq.symm)
    rw [if_neg (by simpa using h1), if_neg h0, mThen_nx]
    cases e : g.ns.find? (isK ks ([102, 101, 101, 100] : Tx)) with
    | some k =>
      obtain ⟨r, hr⟩ := fil_some e
      simp only [hr, List.isEmpty_cons, Bool.not_false, if_true, atI_cons0, ov_get, mMap_pu]
      by_cases hj : joinF g.l g.r = true
      · simp only [hj, if_true, mRet_pu, mThen_rt, rtD_id, retM_rt]
      · simp only [hj, Bool.false_eq_true, if_false, mRet_pu, mThen_rt, rtD_id, retM_rt]
    | none =>
      simp only [fil_none e, List.isEmpty_nil, Bool.not_true, Bool.false_eq_true, if_false, mThen_nx]
      cases e2 : g.ns.find? (isK ks ([115, 112, 97, 99, 101] : Tx)) with
      | some k =>
        obtain ⟨r, hr⟩ := fil_some e2
        simp only [hr, List.isEmpty_cons, Bool.not_false, if_true, atI_cons0, ov_get, mMap_pu, mRet_pu, retM_rt]
      | none =>
        simp only [fil_none e2, List.isEmpty_nil, Bool.not_true, Bool.false_eq_true, if_false, mRet_pu, retM_rt]
def atK (ks : List Tx) (k : Int) : Tx := (atI ks k).getD []
theorem idx_find {ks : List Tx} {w : Tx} : ∀ {ns : List Int}, InK ks ns → if w ∈ ns.map (atK ks) then ∃ k, ns.find? (isK ks w) = some k ∧ atI ns ((ns.map (atK ks)).idxOf w : Int) = some k else ns.find? (isK ks w) = none
  | [], _ => by simp
  | n :: ns, h => by
    obtain ⟨v, hv⟩ := h n List.mem_cons_self
    have ih := idx_find (w := w) (ns := ns) fun k hk => h k (List.mem_cons_of_mem _ hk)
    have ea : atK ks n = v := by unfold atK; rw [hv]; rfl
    have ei : isK ks w n = decide (v = w) := by unfold isK; rw [hv]; simp
    by_cases hw : v = w
    · have : w ∈ (n :: ns).map (atK ks) := by rw [List.map_cons, ea, hw]; exact List.mem_cons_self
      rw [if_pos this]
      refine ⟨n, by rw [List.find?_cons, ei, decide_eq_true hw], ?_⟩
      rw [List.map_cons, List.idxOf_cons, ea, hw]
      simp [atI_cons0]
    · have hf : (n :: ns).find? (isK ks w) = ns.find? (isK ks w) := by rw [List.find?_cons, ei, decide_eq_false hw]
      have hm : (w ∈ (n :: ns).map (atK ks)) = (w ∈ ns.map (atK ks)) := by
        rw [List.map_cons, ea]
        exact propext ⟨fun z => (List.mem_cons.mp z).elim (fun z => absurd z.symm hw) id, List.mem_cons_of_mem _⟩
      rw [hf]
      simp only [hm]
      split at ih
      · rename_i hin
        rw [if_pos hin]
        obtain ⟨k, h1, h2⟩ := ih
        refine ⟨k, h1, ?_⟩
        rw [List.map_cons, List.idxOf_cons, ea]
        have hb : (v == w) = false := by simpa using hw
        rw [hb]
        rw [atI_of (k := (ns.map (atK ks)).idxOf w) rfl] at h2
        rw [atI_of (k := (ns.map (atK ks)).idxOf w + 1) (by simp)]
        simpa using h2
      · rename_i hin
        rw [if_neg hin]
        exact ih
theorem ljoin_eq (l r : Option Tx) : m_law_join l r = pu (decide (l = some ([122, 101, 114, 111] : Tx)) || decide (r = some ([122, 101, 114, 111] : Tx)) || (decide (l = some ([119, 105, 100, 101] : Tx)) && decide (r = some ([119, 105, 100, 101] : Tx)))) := by
  unfold m_law_join mb_law_join
  simp only [mOp_pu, gEqS_otx, ov_get, mAnd_pu, mOr_pu]
  by_cases h1 : l = some ([122, 101, 114, 111] : Tx) <;> by_cases h2 : r = some ([122, 101, 114, 111] : Tx) <;> by_cases h3 : l = some ([119, 105, 100, 101] : Tx) <;> simp [h1, h2, h3]
theorem kept_eq {us : List (Tx × Tx)} {g : Lg} (h1 : OneU us) (h : InK (us.map kindU) g.ns) (hl : g.ns.length ≤ line) : m_law_kept us g = pu ((whiteF (us.map kindU) g).getD (-1)) := by
  unfold m_law_kept mb_law_kept whiteF
  have ek : ∀ k ∈ g.ns, (bd (mCons (ov (atI us k)) (pu ())) fun x => zoom (fun _ => ()) (fun b _ => b) (m_law_kind x.1) : M Unit Unit Tx) = pu (atK (us.map kindU) k) := fun k hk => by
    obtain ⟨v, hv⟩ := h k hk
    have hv' := hv
    unfold atI at hv
    rw [List.length_map] at hv
    obtain ⟨j, hj, hv⟩ := Option.bind_eq_some_iff.mp hv
    rw [List.getElem?_map] at hv
    obtain ⟨u, hu, e⟩ := Option.map_eq_some_iff.mp hv
    have ea : atI us k = some u := by unfold atI; rw [hj]; exact hu
    rw [ea, ov_get, mCons_pu, bd_pu, (kindU_eq (h1 u (List.mem_of_getElem? hu))).2, zoomU_pu]
    unfold atK
    rw [hv', ← e]
    rfl
  simp only [mOp_pu, gK, if_true, ov_get]
  rw [mLc_map (g := atK (us.map kindU)) hl ek, bd_pu]
  simp only [gEqS_otx, ov_get, mOr_pu, mIf_pu, mRet_pu, decide_eq_true_eq, gInL, inB_tx, mOp_pu, gK, if_true, mCons_pu, ljoin_eq, zoomU_pu, mMapO_pu, bd_pu, mAnd_pu, gIndex]
  by_cases h0 : g.l = some ([101, 110, 100] : Tx) ∨ g.r = some ([101, 110, 100] : Tx)
  · rw [if_pos h0]
    by_cases z : g.l = some ([101, 110, 100] : Tx)
    · rw [if_pos z, mIf_pu, if_pos rfl, mThen_rt, rtD_id, retM_rt]
      rfl
    · have z2 := h0.resolve_left z
      rw [if_neg z, z2, mIf_pu, if_pos (decide_eq_true rfl), mThen_rt, rtD_id, retM_rt]
      rfl
  · have z1 : ¬ g.l = some ([101, 110, 100] : Tx) := fun z => h0 (.inl z)
    have z2 : ¬ g.r = some ([101, 110, 100] : Tx) := fun z => h0 (.inr z)
    rw [if_neg h0, if_neg z1, mIf_pu, if_neg (by simpa using z2), mThen_nx]
    have f := idx_find (w := ([102, 101, 101, 100] : Tx)) h
    have s := idx_find (w := ([115, 112, 97, 99, 101] : Tx)) h
    by_cases hf : ([102, 101, 101, 100] : Tx) ∈ g.ns.map (atK (us.map kindU))
    · rw [if_pos hf] at f
      obtain ⟨k, f1, f2⟩ := f
      simp only [hf, if_true, ov_get, mOp_pu, f2, f1, mRet_pu]
      unfold joinF
      cases hl2 : g.l with
      | none =>
        simp only [Option.isSome_none, Bool.false_eq_true, if_false, mIf_pu, mThen_nx, Bool.false_and, mRet_pu, mThen_rt, rtD_id, retM_rt]
        rfl
      | some l =>
        cases hr2 : g.r with
        | none =>
          simp only [Option.isSome_none, Option.isSome_some, if_true, Bool.false_eq_true, if_false, mIf_pu, mThen_nx, Bool.false_and, Bool.and_false, mRet_pu, mThen_rt, rtD_id, retM_rt]
          rfl
        | some r =>
          simp only [Option.isSome_some, if_true, mIf_pu, Bool.true_and]
          by_cases hj : (decide (some l = some ([122, 101, 114, 111] : Tx)) || decide (some r = some ([122, 101, 114, 111] : Tx)) || (decide (some l = some ([119, 105, 100, 101] : Tx)) && decide (some r = some ([119, 105, 100, 101] : Tx)))) = true
          · rw [if_pos hj, if_pos hj, mThen_rt, rtD_id, mThen_rt, rtD_id, retM_rt]
            rfl
          · rw [if_neg hj, if_neg hj, mThen_nx, mThen_rt, rtD_id, retM_rt]
            rfl
    · rw [if_neg hf] at f
      simp only [hf, if_false, mThen_nx, f]
      by_cases hs : ([115, 112, 97, 99, 101] : Tx) ∈ g.ns.map (atK (us.map kindU))
      · rw [if_pos hs] at s
        obtain ⟨k, f1, f2⟩ := s
        simp only [hs, if_true, ov_get, mOp_pu, f2, f1, mRet_pu, mThen_rt, rtD_id, retM_rt]
        rfl
      · rw [if_neg hs] at s
        simp only [hs, if_false, mThen_nx, s, mRet_pu, retM_rt]
        rfl
/-! ### the sources -/
theorem fold_in {A : List Int} : ∀ (ps : List (Int × Tx)) (d : GsT) (m : Nat), (∀ x ∈ ps, x.1 ∈ A) → (∀ g ∈ d.1, (∀ k ∈ g.ns, k ∈ A) ∧ g.ns.length ≤ m) ∧ (∀ k ∈ d.2.1, k ∈ A) ∧ d.2.1.length ≤ m →
    (∀ g ∈ (ps.foldl stepF d).1, (∀ k ∈ g.ns, k ∈ A) ∧ g.ns.length ≤ m + ps.length) ∧ (∀ k ∈ (ps.foldl stepF d).2.1, k ∈ A) ∧ (ps.foldl stepF d).2.1.length ≤ m + ps.length
  | [], d, m, _, h => h
  | x :: ps, d, m, hp, ⟨h1, h2, h3⟩ => by
    have := fold_in ps (stepF d x) (m + 1) (fun y hy => hp y (List.mem_cons_of_mem _ hy)) (by
      have hx := hp x List.mem_cons_self
      unfold stepF
      split
      · refine ⟨fun g hg => ⟨(h1 g hg).1, Nat.le_succ_of_le (h1 g hg).2⟩, fun k hk => ?_, by simpa using h3⟩
        have hk : k ∈ d.2.1 ++ [x.1] := hk
        rcases List.mem_append.mp hk with z | z
        · exact h2 k z
        · have : k = x.1 := by simpa using z
          rw [this]; exact hx
      · refine ⟨fun g hg => ?_, fun k hk => (nomatch hk), Nat.zero_le _⟩
        have hg : g ∈ d.1 ++ [⟨d.2.1, d.2.2, some x.2⟩] := hg
        rcases List.mem_append.mp hg with z | z
        · exact ⟨(h1 g z).1, Nat.le_succ_of_le (h1 g z).2⟩
        · have : g = ⟨d.2.1, d.2.2, some x.2⟩ := by simpa using z
          rw [this]
          exact ⟨h2, Nat.le_succ_of_le h3⟩)
    rw [List.foldl_cons, List.length_cons, show m + (ps.length + 1) = m + 1 + ps.length by omega]
    exact this
theorem gapsF_in {l0 r0 : Option Tx} {ks : List Tx} {g : Lg} (h : g ∈ gapsF l0 r0 ks) : InK ks g.ns ∧ g.ns.length ≤ ks.length := by
  have hA : ∀ k ∈ (enumL (ks, ())).map (·.1), ∃ v, atI ks k = some v := fun k hk => by
    obtain ⟨x, hx, rfl⟩ := List.mem_map.mp hk
    exact ⟨_, enum_at hx⟩
  obtain ⟨h1, h2, h3⟩ := fold_in (A := (enumL (ks, ())).map (·.1)) (enumL (ks, ())) ([], [], l0) 0 (fun x hx => List.mem_map_of_mem hx) ⟨fun _ h => (nomatch h), fun _ h => (nomatch h), Nat.le_refl _⟩
  rw [enumL_len, Nat.zero_add] at h1 h3
  rcases List.mem_append.mp h with z | z
  · exact ⟨fun k hk => hA k ((h1 g z).1 k hk), (h1 g z).2⟩
  · have e : g = ⟨((enumL (ks, ())).foldl stepF ([], [], l0)).2.1, ((enumL (ks, ())).foldl stepF ([], [], l0)).2.2, r0⟩ := List.mem_singleton.mp z
    rw [e]
    exact ⟨fun k hk => hA k (h2 k hk), h3⟩
theorem gapsF_len (l0 r0 : Option Tx) (ks : List Tx) : (gapsF l0 r0 ks).length ≤ ks.length + 1 := by
  have hl := fold_len (enumL (ks, ())) ([], [], l0)
  have z : (([], [], l0) : GsT).1.length = 0 := rfl
  have z2 : (([], [], l0) : GsT).2.1.length = 0 := rfl
  rw [enumL_len] at hl
  unfold gapsF
  rw [List.length_append, List.length_singleton]
  omega
def whitesF (l0 : Option Tx) (ks : List Tx) : List (Option Int) := (gapsF l0 l0 ks).map (whiteF ks)
def stays (l0 : Option Tx) (ks : List Tx) (x : Int × Tx) : Bool := !decide (x.2 ∈ [([115, 112, 97, 99, 101] : Tx), ([102, 101, 101, 100] : Tx)]) || decide (some x.1 ∈ whitesF l0 ks)
def sourcesF (l0 : Option Tx) (ks : List Tx) : List Int := ((enumL (ks, ())).filter (stays l0 ks)).map (·.1)
theorem counting_eq {ks : List Tx} {l0 : Option Tx} (h : ks.length ≤ 100000) : m_counting ks l0 = pu (sourcesF l0 ks) := by
  have big : 100001 < line := by decide
  unfold m_counting mb_counting mDcN
  have hg := gapsF_len l0 l0 ks
  rw [mCons_pu, mCons_pu, bd_pu]
  rw [show m_gaps_of (ks, l0, ()).1 (ks, l0, ()).2.1 = pu ((gapsF l0 l0 ks).map toGp) from pgaps_eq (ks := ks) (l0 := l0) (by omega), zoomU_pu, mMapO_pu, chk_ok (by rw [List.length_map]; omega), ov_get, bd_pu]
  have hw : compM (fun _ => pu true) (fun x1 : Gp => bd (mCons (pu ks) (mCons (pu x1) (pu ()))) fun x => zoom (fun _ => ()) (fun b _ => b) (m_white_of x.1 x.2.1) : Gp → M Unit Unit (Option Int)) ((gapsF l0 l0 ks).map toGp) = pu (whitesF l0 ks) := by
    rw [compM_pure (p := fun _ => true) (g := fun g : Gp => whiteF ks ⟨g.ns, g.l, g.r⟩) (fun _ _ => rfl) fun x hx _ => ?_]
    · rw [List.filter_eq_self.mpr fun _ _ => rfl, List.map_map]
      rfl
    · obtain ⟨g, hg, rfl⟩ := List.mem_map.mp hx
      have := gapsF_in hg
      rw [mCons_pu, mCons_pu, bd_pu]
      show zoom _ _ (m_white_of ks (toGp g)) = _
      rw [white_eq this.1 (by omega), zoomU_pu]
      rfl
  rw [hw, bd_pu, bd_pu, mCons_pu, mMap_pu]
  unfold mLc
  rw [mMapO_pu, chk_ok (by rw [enumL_len]; omega), ov_get, bd_pu, compM_pure (p := stays l0 ks) (g := fun x => x.1) (fun x hx => ?_) fun x hx _ => rfl]
  · rw [mRet_pu, retM_rt]
    rfl
  · simp only [mConsL_pu, mMapO_pu, chk2, ov_get, mMap_pu, mOp_pu, gNotInT, inB_tx, Option.map_some, mOr_pu, List.mem_reverse]
    unfold stays
    by_cases hx : x.2 ∈ [([115, 112, 97, 99, 101] : Tx), ([102, 101, 101, 100] : Tx)]
    · rw [decide_eq_true hx]; rfl
    · rw [decide_eq_false hx]; rfl
/-! ### the text -/
def signF (u : Tx × Tx) : Tx := if kindU u = ([101, 110, 100] : Tx) then [10] else if kindU u ∈ [([115, 112, 97, 99, 101] : Tx), ([102, 101, 101, 100] : Tx)] then [32] else u.2
theorem sign_eq (u : Tx × Tx) : m_sign_shown (kindU u) u.2 = pu (signF u) := by
  unfold m_sign_shown mb_sign_shown signF
  simp only [mOp_pu, gEqS_tx, ov_get, mIf_pu, mConsL_pu, mMapO_pu, chk2, mMap_pu, gInT, inB_tx, decide_eq_true_eq, mRet_pu]
  by_cases h : kindU u = ([101, 110, 100] : Tx)
  · rw [if_pos h, if_pos h, mThen_rt, rtD_id, retM_rt]
  · rw [if_neg h, if_neg h, mThen_nx]
    by_cases h2 : kindU u ∈ [([115, 112, 97, 99, 101] : Tx), ([102, 101, 101, 100] : Tx)]
    · rw [if_pos h2, if_pos h2, mRet_pu, retM_rt]
    · rw [if_neg h2, if_neg h2, mRet_pu, retM_rt]
theorem lsign_eq {u : Tx × Tx} (h : ∃ c, u.2 = [c]) : m_law_sign u = pu (signF u) := by
  unfold m_law_sign mb_law_sign signF
  simp only [mCons_pu, bd_pu, (kindU_eq h).2, zoomU_pu, mOp_pu, gEqS_tx, ov_get, mIf_pu, mConsL_pu, mMapO_pu, chk2, mMap_pu, gInT, inB_tx, decide_eq_true_eq, mRet_pu, gK, if_true]
  by_cases h1 : kindU u = ([101, 110, 100] : Tx)
  · rw [if_pos h1, if_pos h1, mThen_rt, rtD_id, retM_rt]
  · rw [if_neg h1, if_neg h1, mThen_nx]
    by_cases h2 : kindU u ∈ [([115, 112, 97, 99, 101] : Tx), ([102, 101, 101, 100] : Tx)]
    · rw [if_pos h2, if_pos h2, mThen_rt, rtD_id, retM_rt]
    · rw [if_neg h2, if_neg h2, mThen_nx, retM_rt]
theorem signF_one {u : Tx × Tx} (h : ∃ c, u.2 = [c]) : (signF u).length = 1 := by
  unfold signF
  split
  · rfl
  · split
    · rfl
    · obtain ⟨c, e⟩ := h
      rw [e]; rfl
def atU (us : List (Tx × Tx)) (k : Int) : Tx × Tx := (atI us k).getD ([], [0])
def textF (us : List (Tx × Tx)) (src : List Int) : Tx := (src.map fun k => signF (atU us k)).flatten
theorem atU_one {us : List (Tx × Tx)} (h : OneU us) (k : Int) : ∃ c, (atU us k).2 = [c] := by
  unfold atU
  cases e : atI us k with
  | none => exact ⟨0, rfl⟩
  | some u =>
    unfold atI at e
    obtain ⟨j, _, e⟩ := Option.bind_eq_some_iff.mp e
    exact h u (List.mem_of_getElem? e)
theorem len_flat {us : List (Tx × Tx)} (h : OneU us) : ∀ src : List Int, ((src.map fun k => signF (atU us k)).map (·.length)).sum = src.length
  | [] => rfl
  | k :: r => by
    rw [List.map_cons, List.map_cons, List.sum_cons, len_flat h r, signF_one (atU_one h k), List.length_cons]
    omega
theorem joinT {us : List (Tx × Tx)} (h : OneU us) {src : List Int} (hl : src.length ≤ line) : gJoin [] (src.map (fun k => signF (atU us k)), ()) = some (textF us src) := by
  unfold gJoin
  exact if_pos ⟨rfl, by rw [show ((src.map (fun k => signF (atU us k)), ()) : List Tx × Unit).1 = src.map (fun k => signF (atU us k)) from rfl, len_flat h]; exact hl⟩
theorem src_at {l0 : Option Tx} {us : List (Tx × Tx)} {k : Int} (hk : k ∈ sourcesF l0 (us.map kindU)) : atI us k = some (atU us k) ∧ atI (us.map kindU) k = some (kindU (atU us k)) := by
  obtain ⟨x, hx, rfl⟩ := List.mem_map.mp hk
  have ha := enum_at (List.mem_filter.mp hx).1
  have hb := ha
  unfold atI at ha
  obtain ⟨j, hj, ha⟩ := Option.bind_eq_some_iff.mp ha
  rw [List.length_map] at hj
  rw [List.getElem?_map] at ha
  obtain ⟨u, hu, e⟩ := Option.map_eq_some_iff.mp ha
  have ea : atI us x.1 = some u := by unfold atI; rw [hj]; exact hu
  have eu : atU us x.1 = u := by unfold atU; rw [ea]; rfl
  rw [eu, ea, hb, ← e]
  exact ⟨rfl, rfl⟩
theorem src_len (l0 : Option Tx) (ks : List Tx) : (sourcesF l0 ks).length ≤ ks.length := by
  unfold sourcesF
  rw [List.length_map]
  exact Nat.le_trans (List.length_filter_le _ _) (by rw [enumL_len]; exact Nat.le_refl _)
theorem mLc_filM {β : Type} {mi : M β β (List Int)} {xs : List Int} {t : Int → M β β Bool} {p : Int → Bool} (e : mi = pu xs) (hl : xs.length ≤ line) (h : ∀ x ∈ xs, t x = pu (p x)) : mLc mi t (fun x => pu x) = pu (xs.filter p) := by
  rw [e]
  exact mLc_fil hl h
theorem enum_nn {α : Type} {ks : List α} {x : Int × α} (h : x ∈ enumL (ks, ())) : 0 ≤ x.1 := by
  have : x.1 ∈ rangeI 0 (ks.length : Int) := by rw [← enum_fst]; exact List.mem_map_of_mem h
  exact (mem_rangeI this).1
theorem shownU_eq {us : List (Tx × Tx)} (h : OneU us) (hl : us.length ≤ 100000) : m_shown_units us = pu (textF us (sourcesF (some ([101, 110, 100] : Tx)) (us.map kindU)), sourcesF (some ([101, 110, 100] : Tx)) (us.map kindU)) := by
  have big : 100001 < line := by decide
  have sl := src_len (some ([101, 110, 100] : Tx)) (us.map kindU)
  rw [List.length_map] at sl
  unfold m_shown_units mb_shown_units
  simp only [mCons_pu, bd_pu, kinds_eq h (show us.length ≤ line by omega), zoomU_pu, mMap_pu, counting_eq (ks := us.map kindU) (l0 := some ([101, 110, 100] : Tx)) (by rw [List.length_map]; exact hl)]
  rw [mLc_map (g := fun k => signF (atU us k)) (by omega) fun k hk => ?_]
  · rw [mCons_pu, mOp_pu, joinT h (by omega), ov_get, mCons_pu, mMap_pu, mRet_pu, retM_rt]
    rfl
  · obtain ⟨h1, h2⟩ := src_at hk
    simp only [mOp_pu, h1, h2, ov_get, gK, if_true, mCons_pu, bd_pu, sign_eq, zoomU_pu]
theorem lshown_eq {us : List (Tx × Tx)} (h : OneU us) (hl : us.length ≤ 100000) : m_law_shown us = pu ⟨textF us (sourcesF (some ([101, 110, 100] : Tx)) (us.map kindU)), sourcesF (some ([101, 110, 100] : Tx)) (us.map kindU)⟩ := by
  have big : 100001 < line := by decide
  have sl := src_len (some ([101, 110, 100] : Tx)) (us.map kindU)
  rw [List.length_map] at sl
  have gl := gapsF_len (some ([101, 110, 100] : Tx)) (some ([101, 110, 100] : Tx)) (us.map kindU)
  rw [List.length_map] at gl
  unfold m_law_shown mb_law_shown
  have kind_at : ∀ k ∈ rangeI 0 (us.length : Int), atI us k = some (atU us k) ∧ m_law_kind (atU us k) = pu (atK (us.map kindU) k) := fun k hk => by
    have hk := mem_rangeI hk
    have e : atI us k = some us[k.toNat] := by rw [atI_of (k := k.toNat) (by omega), List.getElem?_eq_getElem (by omega)]
    have e2 : atU us k = us[k.toNat] := by unfold atU; rw [e]; rfl
    have e3 : atK (us.map kindU) k = kindU us[k.toNat] := by
      unfold atK
      rw [atI_of (k := k.toNat) (by omega), List.getElem?_map, List.getElem?_eq_getElem (by omega)]
      rfl
    rw [e, e2, e3]
    exact ⟨rfl, (kindU_eq (h _ (List.getElem_mem _))).2⟩
  simp only [mCons_pu, bd_pu, lgaps_eq h hl, zoomU_pu, ends_eq, ov_get, mMapO_pu]
  rw [mLc_map (g := fun g => (whiteF (us.map kindU) g).getD (-1)) (by omega) fun g hg => ?_]
  · rw [bd_pu]
    rw [mLc_filM (xs := rangeI 0 (us.length : Int)) (p := fun k => decide (k ∈ (gapsF (some ([101, 110, 100] : Tx)) (some ([101, 110, 100] : Tx)) (us.map kindU)).map (fun g => (whiteF (us.map kindU) g).getD (-1))) || !decide (atK (us.map kindU) k ∈ [([115, 112, 97, 99, 101] : Tx), ([102, 101, 101, 100] : Tx)])) (by rw [range1_ok ⟨by omega, by omega⟩]; rfl) (by rw [rangeI_len]; omega) fun k hk => ?_]
    · have key : (rangeI 0 (us.length : Int)).filter (fun k => decide (k ∈ (gapsF (some ([101, 110, 100] : Tx)) (some ([101, 110, 100] : Tx)) (us.map kindU)).map (fun g => (whiteF (us.map kindU) g).getD (-1))) || !decide (atK (us.map kindU) k ∈ [([115, 112, 97, 99, 101] : Tx), ([102, 101, 101, 100] : Tx)])) = sourcesF (some ([101, 110, 100] : Tx)) (us.map kindU) := by
        have e : rangeI 0 (us.length : Int) = (enumL (us.map kindU, ())).map (·.1) := by rw [enum_fst, List.length_map]
        rw [e, List.filter_map]
        unfold sourcesF
        congr 1
        refine List.filter_congr fun x hx => ?_
        have hn := enum_nn hx
        have ek : atK (us.map kindU) x.1 = x.2 := by unfold atK; rw [enum_at hx]; rfl
        show (decide (x.1 ∈ _) || !decide (atK (us.map kindU) x.1 ∈ _)) = stays _ _ x
        rw [ek]
        unfold stays whitesF
        rw [Bool.or_comm]
        congr 1
        rw [decide_eq_decide, List.mem_map, List.mem_map]
        constructor
        · rintro ⟨g, hg, e⟩
          refine ⟨g, hg, ?_⟩
          cases ew : whiteF (us.map kindU) g with
          | none => rw [ew] at e; simp at e; omega
          | some k => rw [ew] at e; exact congrArg some e
        · rintro ⟨g, hg, e⟩
          exact ⟨g, hg, by rw [e]; rfl⟩
      rw [key, bd_pu, mLc_map (g := fun k => signF (atU us k)) (by omega) fun k hk => ?_]
      · rw [mCons_pu, mOp_pu, joinT h (by omega), ov_get, mCons_pu, mMap_pu, mRet_pu, retM_rt]
        rfl
      · simp only [(src_at hk).1, mOp_pu, ov_get, mCons_pu, bd_pu, lsign_eq (atU_one h k), zoomU_pu]
    · obtain ⟨h1, h2⟩ := kind_at k hk
      simp only [mOp_pu, gInL, inB_int, ov_get, mOr_pu, h1, mCons_pu, bd_pu, h2, zoomU_pu, mConsL_pu, mMapO_pu, chk2, mMap_pu, gNotInT, inB_tx, Option.map_some]
      by_cases hm : k ∈ (gapsF (some ([101, 110, 100] : Tx)) (some ([101, 110, 100] : Tx)) (us.map kindU)).map (fun g => (whiteF (us.map kindU) g).getD (-1))
      · rw [decide_eq_true hm]; rfl
      · rw [decide_eq_false hm]; rfl
  · have := gapsF_in hg
    rw [List.length_map] at this
    rw [kept_eq h this.1 (by omega), zoomU_pu]
/-! ### a text that is kept as it is -/
theorem presK (c : Nat) : kindF ([112, 114, 101, 115, 101, 114, 118, 101] : Tx) [c] ∉ [([115, 112, 97, 99, 101] : Tx), ([102, 101, 101, 100] : Tx)] := by
  unfold kindF
  repeat' split
  all_goals first | decide | (rename_i h; exact absurd rfl h) | (rename_i h; exact absurd h (by decide))
theorem presS {c : Nat} (h : c ≠ 124) : signF (([112, 114, 101, 115, 101, 114, 118, 101] : Tx), [c]) = [c] := by
  unfold signF
  have n : ¬ kindU (([112, 114, 101, 115, 101, 114, 118, 101] : Tx), [c]) ∈ [([115, 112, 97, 99, 101] : Tx), ([102, 101, 101, 100] : Tx)] := presK c
  rw [if_neg n]
  split
  · rename_i e
    have e : kindF ([112, 114, 101, 115, 101, 114, 118, 101] : Tx) [c] = ([101, 110, 100] : Tx) := e
    unfold kindF at e
    split at e
    · rw [if_pos rfl] at e
      exact absurd e (by decide)
    · split at e
      · rename_i e2
        exact e2.symm
      · split at e
        · rename_i e3
          simp at e3
          exact absurd e3 h
        · exfalso
          split at e
          · exact absurd e (by decide)
          · split at e
            · exact absurd e (by decide)
            · split at e
              · exact absurd e (by decide)
              · exact absurd e (by decide)
  · rfl
theorem enum_snd {α : Type} (ks : List α) : (enumL (ks, ())).map (·.2) = ks := by
  unfold enumL
  rw [List.map_snd_zip (by simp)]
theorem pres_units (t : Tx) : unitsF [(([112, 114, 101, 115, 101, 114, 118, 101] : Tx), t)] = t.map fun c => (([112, 114, 101, 115, 101, 114, 118, 101] : Tx), [c]) := by
  unfold unitsF signs
  rw [List.flatMap_cons, List.flatMap_nil, List.append_nil, List.map_map]
  rfl
theorem pres_text {t : Tx} (h : ∀ c ∈ t, c ≠ 124) : textF (unitsF [(([112, 114, 101, 115, 101, 114, 118, 101] : Tx), t)]) (sourcesF (some ([101, 110, 100] : Tx)) ((unitsF [(([112, 114, 101, 115, 101, 114, 118, 101] : Tx), t)]).map kindU)) = t := by
  rw [pres_units]
  have e : sourcesF (some ([101, 110, 100] : Tx)) ((t.map fun c => (([112, 114, 101, 115, 101, 114, 118, 101] : Tx), [c])).map kindU) = (enumL (t.map fun c => ((([112, 114, 101, 115, 101, 114, 118, 101] : Tx), [c]) : Tx × Tx), ())).map (·.1) := by
    unfold sourcesF
    rw [List.filter_eq_self.mpr fun x hx => ?_]
    · rw [enum_fst, enum_fst, List.length_map]
    · have hk : x.2 ∈ (t.map fun c => ((([112, 114, 101, 115, 101, 114, 118, 101] : Tx), [c]) : Tx × Tx)).map kindU := by
        have := List.mem_map_of_mem (f := (·.2)) hx
        rwa [enum_snd] at this
      rw [List.map_map] at hk
      obtain ⟨c, _, e⟩ := List.mem_map.mp hk
      have := presK c
      have e : kindF ([112, 114, 101, 115, 101, 114, 118, 101] : Tx) [c] = x.2 := e
      rw [e] at this
      unfold stays
      rw [decide_eq_false this]
      rfl
  rw [e]
  unfold textF
  rw [List.map_map]
  have e2 : (enumL (t.map fun c => ((([112, 114, 101, 115, 101, 114, 118, 101] : Tx), [c]) : Tx × Tx), ())).map ((fun k => signF (atU (t.map fun c => (([112, 114, 101, 115, 101, 114, 118, 101] : Tx), [c])) k)) ∘ (·.1)) = (enumL (t.map fun c => ((([112, 114, 101, 115, 101, 114, 118, 101] : Tx), [c]) : Tx × Tx), ())).map (signF ∘ (·.2)) := by
    refine List.map_congr_left fun x hx => ?_
    show signF (atU _ x.1) = signF x.2
    unfold atU
    rw [enum_at hx]
    rfl
  rw [e2, ← List.map_map, enum_snd, List.map_map]
  have e3 : t.map (signF ∘ fun c => ((([112, 114, 101, 115, 101, 114, 118, 101] : Tx), [c]) : Tx × Tx)) = t.map fun c => [c] := List.map_congr_left fun c hc => presS (h c hc)
  rw [e3]
  clear h e e2 e3
  induction t with
  | nil => rfl
  | cons a t ih => rw [List.map_cons, List.flatten_cons, ih]; rfl
theorem signF_no {u : Tx × Tx} (h : ∃ c, u.2 = [c]) : ∀ c ∈ signF u, c ≠ 124 := by
  obtain ⟨d, e⟩ := h
  unfold signF
  split
  · intro c hc; simp at hc; omega
  · rename_i hk
    split
    · intro c hc; simp at hc; omega
    · rw [e]
      intro c hc
      have : c = d := by simpa using hc
      subst this
      intro z
      subst z
      refine hk ?_
      show kindF u.1 u.2 = _
      rw [e]
      rfl
theorem text_no {us : List (Tx × Tx)} (h : OneU us) (src : List Int) : ∀ c ∈ textF us src, c ≠ 124 := fun c hc => by
  obtain ⟨l, hl, hc⟩ := List.mem_flatten.mp hc
  obtain ⟨k, _, rfl⟩ := List.mem_map.mp hl
  exact signF_no (atU_one h k) c hc
theorem text_len {us : List (Tx × Tx)} (h : OneU us) (src : List Int) : (textF us src).length = src.length := by
  unfold textF
  rw [List.length_flatten, len_flat h]
/-! ### draws with a list beside the box -/
theorem ixS_at {x : Tx} {i : Int} {k : Nat} {a : Nat} (hl : x.length ≤ line) (h : i = (k : Int)) (e : x[k]? = some a) : gIxS x i = some [a] := by
  unfold gIxS
  rw [if_pos hl, atI_of h, e]
  rfl
theorem gIxS_some {x : Tx} {i : Int} {k : Nat} (hl : x.length ≤ line) (h : i = (k : Int)) (hk : k < x.length) : gIxS x i = some [x[k]] := ixS_at hl h (List.getElem?_eq_getElem hk)
theorem newB_end {γ' : Type} {L : M Bx Bx (Fl γ' Bool)} {k : γ' → M Bx Unit (Fl Unit Bool)} (r : List Int) (h : Tot BxOk L fun o => ∃ c', o = .nx c' ∧ True) (hk : ∀ c b, k c b = some (.rt true, ())) : retM (newB (mThen (fun _ : Bx => ()) L k) r) () = some (true, ()) := by
  obtain ⟨o, b', e, _, c', rfl, _⟩ := h (r, 0) (show (0 : Int) ≤ 0 by decide)
  have : newB (mThen (fun _ : Bx => ()) L k) r () = some (.rt true, ()) := by
    show mThen (fun _ : Bx => ()) L k (r, 0) = _
    unfold mThen
    rw [bd_ap e]
    exact hk c' b'
  unfold retM
  rw [bd_ap this]
  rfl
theorem Tot.zoomB {α ρ : Type} {R : List α → Prop} {m : M Bx Bx ρ} {Q : ρ → Prop} (h : Tot BxOk m Q) : Tot (fun b : Bx × List α => BxOk b.1 ∧ R b.2) (zoom (fun b : Bx × List α => b.1) (fun (b : Bx × List α) (c : Bx) => (c, b.2)) m) Q := fun b i => by
  obtain ⟨x, b', e, i', q⟩ := h b.1 i.1
  refine ⟨x, (b', b.2), ?_, ⟨i', i.2⟩, q⟩
  unfold zoom
  rw [e]
  rfl
theorem Tot.drawB {α : Type} {R : List α → Prop} {n : Int} (h : 0 < n) : Tot (fun b : Bx × List α => BxOk b.1 ∧ R b.2) (bd (mCons (pu n) (pu ())) fun x => zoom (fun b : Bx × List α => b.1) (fun (b : Bx × List α) (c : Bx) => (c, b.2)) (m_law_draw x.1)) fun v => 0 ≤ v ∧ v < n := by
  rw [mCons_pu, bd_pu]
  exact Tot.zoomB (draw_ok h)
theorem Tot.rangeI' {β : Type} {I : β → Prop} {m : M β β Int} {n : Int} (h : Tot I m fun v => 0 ≤ v ∧ v < n) (hn : n ≤ 1000000) : Tot I (mMapO gRange1 (mCons m (pu ()))) fun xs => ∃ v, xs = rangeI 0 v ∧ 0 ≤ v ∧ v < n := by
  unfold mMapO mCons
  refine .bd (Q := fun z : Int × Unit => 0 ≤ z.1 ∧ z.1 < n) (.bd h fun v hv => .bd (.pu (Q := fun _ => True) trivial) fun u _ => .pu hv) fun ⟨v, _⟩ hv => ?_
  have hv : 0 ≤ v ∧ v < n := hv
  rw [range1_ok ⟨hv.1, by omega⟩]
  exact .pu ⟨v, rfl, hv⟩
theorem Tot.ixS {β : Type} {I : β → Prop} {w : Tx} (hw : w.length ≤ line) {n : Int} (hl : n ≤ w.length) {m : M β β Int} (h : Tot I m fun v => 0 ≤ v ∧ v < n) : Tot I (mOp gIxS (pu w) m) fun s => ∃ c ∈ w, s = [c] := by
  unfold mOp
  rw [bd_pu]
  refine .bd h fun v hv => ?_
  have hk : v.toNat < w.length := by omega
  rw [gIxS_some hw (show v = (v.toNat : Int) by omega) hk]
  exact .pu ⟨_, List.getElem_mem hk, rfl⟩
theorem Tot.ixL {β α : Type} {I : β → Prop} {w : List α} {n : Int} (hl : n ≤ w.length) {m : M β β Int} (h : Tot I m fun v => 0 ≤ v ∧ v < n) : Tot I (mOp (fun (x : List α) (i : Int) => atI x i) (pu w) m) fun s => s ∈ w := by
  unfold mOp
  rw [bd_pu]
  refine .bd h fun v hv => ?_
  have hk : v.toNat < w.length := by omega
  show Tot I (ov (atI w v)) _
  rw [show atI w v = some w[v.toNat] by rw [atI_of (k := v.toNat) (by omega), List.getElem?_eq_getElem hk]]
  exact .pu (List.getElem_mem hk)
/-! ### drawn fragments -/
abbrev Sg (c : Nat) : Prop := c < 127 ∧ (c = 10 ∨ 32 ≤ c)
def Asc (t : Tx) : Prop := ∀ c ∈ t, Sg c
def MODES : List Tx := [([99, 111, 108, 108, 97, 112, 115, 101] : Tx), ([99, 111, 108, 108, 97, 112, 115, 101] : Tx), ([98, 114, 101, 97, 107, 115] : Tx), ([112, 114, 101, 115, 101, 114, 118, 101] : Tx)]
def PrOk (k : Nat) (p : Tx × Tx) : Prop := p.2.length ≤ k ∧ p.1 ∈ MODES ∧ Asc p.2
def FrOk (n k : Nat) (fr : List (Tx × Tx)) : Prop := fr.length ≤ n ∧ ∀ p ∈ fr, PrOk k p
theorem units_len {n k : Nat} : ∀ {fr : List (Tx × Tx)}, FrOk n k fr → (unitsF fr).length ≤ n * k
  | [], _ => Nat.zero_le _
  | p :: fr, ⟨h1, h2⟩ => by
    have hn : 0 < n := by simp at h1; omega
    have ih := units_len (n := n - 1) (k := k) (fr := fr) ⟨by simp at h1; omega, fun q hq => h2 q (List.mem_cons_of_mem _ hq)⟩
    have e : (unitsF (p :: fr)).length = p.2.length + (unitsF fr).length := by
      show (((signs p.2).map fun s => (p.1, s)) ++ unitsF fr).length = _
      rw [List.length_append, List.length_map]
      simp [signs]
    have := (h2 p List.mem_cons_self).1
    have : n * k = (n - 1) * k + k := by
      obtain ⟨m, rfl⟩ := Nat.exists_eq_succ_of_ne_zero (Nat.pos_iff_ne_zero.mp hn)
      rw [Nat.succ_mul]
      rfl
    omega
theorem frag_ok {most : Int} (h : 0 < most ∧ most ≤ 1000) : Tot BxOk (m_law_fragment most) fun fr => FrOk 4 (most - 1).toNat fr := by
  have key : Tri BxOk (m_law_fragment most) fun fr b => BxOk b ∧ FrOk 4 (most - 1).toNat fr := by
    unfold m_law_fragment mb_law_fragment
    have four : chk [([99, 111, 108, 108, 97, 112, 115, 101] : Tx), ([99, 111, 108, 108, 97, 112, 115, 101] : Tx), ([98, 114, 101, 97, 107, 115] : Tx), ([112, 114, 101, 115, 101, 114, 118, 101] : Tx)] = some [([99, 111, 108, 108, 97, 112, 115, 101] : Tx), ([99, 111, 108, 108, 97, 112, 115, 101] : Tx), ([98, 114, 101, 97, 107, 115] : Tx), ([112, 114, 101, 115, 101, 114, 118, 101] : Tx)] := chk_ok (by decide)
    have hline : 2000 ≤ line := by decide
    refine .retM (.newM (.then (J := fun (_ : Unit) b => BxOk b.1 ∧ FrOk 4 (most - 1).toNat b.2) ?_ fun g => .frzM fun l => (by rw [mRet_pu]; exact .pu fun b hb => ⟨l, rfl, hb⟩)))
    refine .bd (Q := fun xs b => (∃ v, xs = rangeI 0 v ∧ 0 ≤ v ∧ v < 5) ∧ BxOk b.1 ∧ b.2 = []) ?_ fun xs => .of (fun b h => h.1) fun ⟨v, e, hv⟩ => ?_
    · have := (Tot.rangeI' (Tot.drawB (α := Tx × Tx) (R := fun l => l = []) (n := 5) (by decide)) (by decide))
      exact fun b i => by
        obtain ⟨x, b', e, i', q⟩ := this b i
        exact ⟨x, b', e, q, i'⟩
    · subst e
      have hx : (rangeI 0 v).length ≤ 4 := by rw [rangeI_len]; omega
      refine ((Tri.loop (J := fun i (_ : Unit) b => BxOk b.1 ∧ b.2.length = i ∧ ∀ p ∈ b.2, PrOk (most - 1).toNat p) (rangeI 0 v) 0 fun j c x hj => ?_).pre fun b hb => ⟨hb.2.1, by rw [hb.2.2]; rfl, fun p hp => by rw [hb.2.2] at hp; cases hp⟩).imp fun o b ⟨c, e, h1, h2, h3⟩ => ⟨c, e, h1, by rw [h2]; omega, h3⟩
      have hjl : j < 4 := by
        have := (List.getElem?_eq_some_iff.mp hj).1
        omega
      rw [Nat.zero_add]
      simp only [mConsL_pu, mMapO_pu, four, ov_get]
      let R : List (Tx × Tx) → Prop := fun l => l.length = j ∧ ∀ p ∈ l, PrOk (most - 1).toNat p
      refine .bd (Q := fun (mode : Tx) b => mode ∈ MODES ∧ BxOk b.1 ∧ R b.2) ?_ fun mode => .of (fun b h => h.1) fun hmode => .pre (P := fun b => BxOk b.1 ∧ R b.2) ?_ fun b h => h.2
      · have := Tot.ixL (w := [([99, 111, 108, 108, 97, 112, 115, 101] : Tx), ([99, 111, 108, 108, 97, 112, 115, 101] : Tx), ([98, 114, 101, 97, 107, 115] : Tx), ([112, 114, 101, 115, 101, 114, 118, 101] : Tx)]) (n := 4) (by decide) (Tot.drawB (α := Tx × Tx) (R := R) (n := 4) (by decide))
        exact fun b i => by
          obtain ⟨x, b', e, i', q⟩ := this b i
          exact ⟨x, b', e, q, i'⟩
      · rw [bd_pu]
        refine .then (J := fun (t : Tx) b => (BxOk b.1 ∧ R b.2) ∧ t.length ≤ (most - 1).toNat ∧ Asc t) ?_ fun t => ?_
        · have : Tot (fun b : Bx × List (Tx × Tx) => BxOk b.1 ∧ R b.2) (bd (mMapO gRange1 (mCons (bd (mCons (pu most) (pu ())) fun x => zoom (fun b : (Bx × List (Tx × Tx)) => b.1) (fun (b : (Bx × List (Tx × Tx))) (c : Bx) => (c, b.2)) (m_law_draw x.1)) (pu ()))) fun xs => loopM (fun (c5 : Tx) (x6 : Int) => bd (mOp gCat (pu c5) (mOp gIxS (pu ([32, 32, 10, 10, 124, 124, 94, 94, 60, 62, 65, 65, 66, 98, 97, 120, 55] : Tx)) (bd (mCons (pu (17 : Int)) (pu ())) fun x => zoom (fun b : (Bx × List (Tx × Tx)) => b.1) (fun (b : (Bx × List (Tx × Tx))) (c : Bx) => (c, b.2)) (m_law_draw x.1)))) fun v_text_7 => pu (.nx v_text_7)) xs ([] : Tx) : M (Bx × List (Tx × Tx)) (Bx × List (Tx × Tx)) (Fl Tx (List (Tx × Tx)))) fun o => ∃ c', o = .nx c' ∧ c'.length ≤ (most - 1).toNat ∧ Asc c' := by
            refine .bd (Tot.rangeI' (Tot.drawB h.1) (by omega)) fun xs ⟨w, e, hw⟩ => ?_
            subst e
            have hwl : (rangeI 0 w).length ≤ (most - 1).toNat := by rw [rangeI_len]; omega
            refine (Tot.loopI (J := fun p c => c.length = p.length ∧ Asc c) (rangeI 0 w) [] ⟨rfl, fun _ h => absurd h List.not_mem_nil⟩ fun p y r c hp hc => ?_).imp fun o ⟨c', e, hc⟩ => ⟨c', e, by rw [hc.1]; simpa using hwl, hc.2⟩
            have hpl : p.length < (rangeI 0 w).length := by
              have := congrArg List.length hp
              simp at this
              omega
            refine .bd (Q := fun t : Tx => t.length = (p ++ [y]).length ∧ Asc t) ?_ fun t ht => .pu ⟨t, rfl, ht⟩
            refine .op (A := fun z => z = c) .eq (Tot.ixS (n := 17) (by decide) (by decide) (Tot.drawB (by decide))) fun a s ha ⟨d, hd, es⟩ => ?_
            subst ha es
            have hc1 := hc.1
            exact ⟨_, gCat_ok (by simp; omega), by simp; omega, fun z hz => (List.mem_append.mp hz).elim (hc.2 z) fun hz => by
              rw [List.mem_singleton.mp hz]
              have : ∀ d ∈ ([32, 32, 10, 10, 124, 124, 94, 94, 60, 62, 65, 65, 66, 98, 97, 120, 55] : Tx), Sg d := by decide
              exact this d hd⟩
          exact fun b i => by
            obtain ⟨x, b', e, i', c', e', q⟩ := this b i
            exact ⟨x, b', e, c', e', i', q⟩
        · rw [mCons_pu, mCons_pu, mMap_pu, bd_pu]
          refine .bd (Q := fun _ b => BxOk b.1 ∧ b.2.length = j + 1 ∧ ∀ p ∈ b.2, PrOk (most - 1).toNat p) (.upd fun b hb => ⟨_, if_pos (by rw [hb.1.2.1]; omega), hb.1.1, by simp [hb.1.2.1], fun p hp => ?_⟩) fun _ => .pu fun b hb => ⟨(), rfl, hb⟩
          rcases List.mem_append.mp hp with z | z
          · exact hb.1.2.2 p z
          · have : p = (mode, t) := by simpa [pr2] using z
            rw [this]
            exact ⟨hb.2.1, hmode, hb.2.2⟩
  exact fun b i => key b i
/-! ### the needed units -/
theorem kindAt {us : List (Tx × Tx)} (h : OneU us) : ∀ k ∈ rangeI 0 (us.length : Int), atI us k = some (atU us k) ∧ m_law_kind (atU us k) = pu (atK (us.map kindU) k) := fun k hk => by
  have hk := mem_rangeI hk
  have e : atI us k = some us[k.toNat] := by rw [atI_of (k := k.toNat) (by omega), List.getElem?_eq_getElem (by omega)]
  have e2 : atU us k = us[k.toNat] := by unfold atU; rw [e]; rfl
  have e3 : atK (us.map kindU) k = kindU us[k.toNat] := by
    unfold atK
    rw [atI_of (k := k.toNat) (by omega), List.getElem?_map, List.getElem?_eq_getElem (by omega)]
    rfl
  rw [e, e2, e3]
  exact ⟨rfl, (kindU_eq (h _ (List.getElem_mem _))).2⟩
theorem lsrc_eq (l0 : Option Tx) (us : List (Tx × Tx)) : (rangeI 0 (us.length : Int)).filter (fun k => decide (k ∈ (gapsF l0 l0 (us.map kindU)).map (fun g => (whiteF (us.map kindU) g).getD (-1))) || !decide (atK (us.map kindU) k ∈ [([115, 112, 97, 99, 101] : Tx), ([102, 101, 101, 100] : Tx)])) = sourcesF l0 (us.map kindU) := by
  have e : rangeI 0 (us.length : Int) = (enumL (us.map kindU, ())).map (·.1) := by rw [enum_fst, List.length_map]
  rw [e, List.filter_map]
  unfold sourcesF
  congr 1
  refine List.filter_congr fun x hx => ?_
  have hn := enum_nn hx
  have ek : atK (us.map kindU) x.1 = x.2 := by unfold atK; rw [enum_at hx]; rfl
  show (decide (x.1 ∈ _) || !decide (atK (us.map kindU) x.1 ∈ _)) = stays _ _ x
  rw [ek]
  unfold stays whitesF
  rw [Bool.or_comm]
  congr 1
  rw [decide_eq_decide, List.mem_map, List.mem_map]
  constructor
  · rintro ⟨g, hg, e⟩
    refine ⟨g, hg, ?_⟩
    cases ew : whiteF (us.map kindU) g with
    | none => rw [ew] at e; simp at e; omega
    | some k => rw [ew] at e; exact congrArg some e
  · rintro ⟨g, hg, e⟩
    exact ⟨g, hg, by rw [e]; rfl⟩
def needF (us : List (Tx × Tx)) : List (Tx × Tx) := (sourcesF none (us.map kindU)).map (atU us)
theorem needF_one {us : List (Tx × Tx)} (h : OneU us) : OneU (needF us) := fun u hu => by
  obtain ⟨k, _, rfl⟩ := List.mem_map.mp hu
  exact atU_one h k
theorem needF_len (us : List (Tx × Tx)) : (needF us).length ≤ us.length := by
  have := src_len none (us.map kindU)
  rw [List.length_map] at this
  unfold needF
  rw [List.length_map]
  exact this
theorem needed_eq {us : List (Tx × Tx)} (h : OneU us) (hl : us.length ≤ 100000) : m_needed us = pu (needF us) := by
  have big : 100001 < line := by decide
  have sl := src_len none (us.map kindU)
  rw [List.length_map] at sl
  unfold m_needed mb_needed
  simp only [mCons_pu, bd_pu, kinds_eq h (show us.length ≤ line by omega), zoomU_pu, counting_eq (ks := us.map kindU) (l0 := none) (by rw [List.length_map]; exact hl)]
  rw [mLc_map (g := atU us) (by omega) fun k hk => ?_]
  · rw [mRet_pu, retM_rt]
    rfl
  · rw [mOp_pu, (src_at hk).1, ov_get]
/-! ### replace of the feed -/
theorem repl_ok {x : Tx} (h : x.length ≤ 100000) : gRepl "\n" "" x = some (x.filter (· != 10)) := by
  unfold gRepl
  have z : ("" : Str).length = 0 := by decide +kernel
  rw [if_pos (by rw [z]; omega)]
  have e := PyProof.Rows.replace_strikes (tS x) 10
  rw [tS_cps] at e
  exact congrArg some e
/-! ### the form -/
def sgnT (us : List (Tx × Tx)) : Tx := (us.map (·.2)).flatten
def solF (ks : List Tx) : List Int := ((enumL (ks, ())).filter fun x => !decide (x.2 ∈ [([115, 112, 97, 99, 101] : Tx), ([102, 101, 101, 100] : Tx), ([109, 97, 114, 107] : Tx)])).map (·.1)
def feedLast (s : Tx) : Tx := if 10 ∈ s then s.filter (· != 10) ++ [10] else s
def feedFirst (s : Tx) : Tx := if 10 ∈ s then [10] ++ s.filter (· != 10) else s
def endsF (kept : List (Tx × Tx)) (f l : Int) : T3 Tx Tx Tx :=
  ⟨if kindU (atU kept f) = ([122, 101, 114, 111] : Tx) then feedLast (sgnT (cut kept none (some f))) else sgnT (cut kept none (some f)), ((cut kept (some f) (some (l + 1))).map signF).flatten,
   if kindU (atU kept l) = ([122, 101, 114, 111] : Tx) then feedFirst (sgnT (cut kept (some (l + 1)) none)) else sgnT (cut kept (some (l + 1)) none)⟩
def coreF (kept : List (Tx × Tx)) : T3 Tx Tx Tx := match solF (kept.map kindU) with
  | [] => ⟨sgnT kept, [], []⟩
  | f :: r => endsF kept f ((f :: r).getLast (List.cons_ne_nil f r))
def formF (us : List (Tx × Tx)) : T3 Tx Tx Tx := coreF (needF us)
theorem sgn_join {us : List (Tx × Tx)} (h : OneU us) (hl : us.length ≤ line) : gJoin [] (us.map (·.2), ()) = some (sgnT us) := by
  unfold gJoin
  refine if_pos ⟨rfl, ?_⟩
  have : ∀ {us : List (Tx × Tx)}, OneU us → ((us.map (·.2)).map (·.length)).sum = us.length := by
    intro us
    induction us with
    | nil => intro _; rfl
    | cons u us ih =>
      intro h
      obtain ⟨c, e⟩ := h u List.mem_cons_self
      rw [List.map_cons, List.map_cons, List.sum_cons, ih fun v hv => h v (List.mem_cons_of_mem _ hv), e, List.length_cons]
      simp
      omega
  show ((us.map (·.2)).map (·.length)).sum ≤ line
  rw [this h]
  exact hl
theorem sgn_len : ∀ {us : List (Tx × Tx)}, OneU us → (sgnT us).length = us.length
  | [], _ => rfl
  | u :: us, h => by
    obtain ⟨c, e⟩ := h u List.mem_cons_self
    have ih := sgn_len (us := us) fun v hv => h v (List.mem_cons_of_mem _ hv)
    unfold sgnT at ih ⊢
    rw [List.map_cons, List.flatten_cons, List.length_append, ih, e, List.length_cons]
    simp
    omega
theorem feedLast_eq {s : Tx} (h : s.length ≤ 100000) : m_with_feed_last s = pu (feedLast s) := by
  have big : 100001 < line := by decide
  unfold m_with_feed_last mb_with_feed_last feedLast
  simp only [mOp_pu, gInS, ov_get, mIf_pu, mMapO_pu, repl_ok h, decide_eq_true_eq]
  have hf : (s.filter (· != 10)).length ≤ s.length := List.length_filter_le _ _
  rw [gCat_ok (by rw [List.length_singleton]; omega), ov_get]
  split
  · rw [mRet_pu, retM_rt]
  · rw [mRet_pu, retM_rt]
theorem feedFirst_eq {s : Tx} (h : s.length ≤ 100000) : m_with_feed_first s = pu (feedFirst s) := by
  have big : 100001 < line := by decide
  unfold m_with_feed_first mb_with_feed_first feedFirst
  simp only [mOp_pu, gInS, ov_get, mIf_pu, mMapO_pu, repl_ok h, decide_eq_true_eq]
  have hf : (s.filter (· != 10)).length ≤ s.length := List.length_filter_le _ _
  rw [gCat_ok (by rw [List.length_singleton]; omega), ov_get]
  split
  · rw [mRet_pu, retM_rt]
  · rw [mRet_pu, retM_rt]
theorem atI_lastOf {α : Type} {f : α} {r : List α} : atI (f :: r) (-1) = some ((f :: r).getLast (List.cons_ne_nil f r)) := by
  refine atI_m1 ?_
  rw [List.getLast_eq_getElem, List.getElem?_eq_getElem]
theorem sol_at {kept : List (Tx × Tx)} {k : Int} (hk : k ∈ solF (kept.map kindU)) : atI kept k = some (atU kept k) ∧ atI (kept.map kindU) k = some (kindU (atU kept k)) ∧ 0 ≤ k ∧ k < kept.length := by
  obtain ⟨x, hx, rfl⟩ := List.mem_map.mp hk
  have hm := (List.mem_filter.mp hx).1
  have hr : x.1 ∈ rangeI 0 ((kept.map kindU).length : Int) := by rw [← enum_fst]; exact List.mem_map_of_mem hm
  have hr := mem_rangeI hr
  rw [List.length_map] at hr
  have e : atI kept x.1 = some kept[x.1.toNat] := by rw [atI_of (k := x.1.toNat) (by omega), List.getElem?_eq_getElem (by omega)]
  have e2 : atU kept x.1 = kept[x.1.toNat] := by unfold atU; rw [e]; rfl
  refine ⟨by rw [e, e2], ?_, hr.1, hr.2⟩
  rw [atI_of (k := x.1.toNat) (by omega), List.getElem?_map, List.getElem?_eq_getElem (by omega), e2]
  rfl
theorem OneU.sub {us vs : List (Tx × Tx)} (h : OneU us) (s : ∀ u ∈ vs, u ∈ us) : OneU vs := fun u hu => h u (s u hu)
theorem cut_mem {α : Type} {xs : List α} {lo hi : Option Int} : ∀ u ∈ cut xs lo hi, u ∈ xs := fun u hu => by
  unfold cut at hu
  exact List.mem_of_mem_drop (List.mem_of_mem_take hu)
theorem cut_len {α : Type} {xs : List α} {lo hi : Option Int} : (cut xs lo hi).length ≤ xs.length := by
  unfold cut
  rw [List.length_take, List.length_drop]
  omega
theorem lsol_eq {kept : List (Tx × Tx)} (h : OneU kept) (hl : kept.length ≤ 100000) {mi : M Unit Unit (List Int)} (e : mi = pu (rangeI 0 (kept.length : Int))) :
    mLc mi (fun x3 : Int => mOp gNotInT (bd (mCons (ov (atI kept x3)) (pu ())) fun x => zoom (fun _ => ()) (fun b _ => b) (m_law_kind x.1)) (pu (Tp.mk [([115, 112, 97, 99, 101] : Tx), ([102, 101, 101, 100] : Tx), ([109, 97, 114, 107] : Tx)]))) (fun x3 : Int => pu x3) = pu (solF (kept.map kindU)) := by
  have big : 100001 < line := by decide
  rw [mLc_filM (p := fun k => !decide (atK (kept.map kindU) k ∈ [([115, 112, 97, 99, 101] : Tx), ([102, 101, 101, 100] : Tx), ([109, 97, 114, 107] : Tx)])) e (by rw [rangeI_len]; omega) fun k hk => ?_]
  · have e : rangeI 0 (kept.length : Int) = (enumL (kept.map kindU, ())).map (·.1) := by rw [enum_fst, List.length_map]
    rw [e, List.filter_map]
    unfold solF
    congr 2
    refine List.filter_congr fun x hx => ?_
    have ek : atK (kept.map kindU) x.1 = x.2 := by unfold atK; rw [enum_at hx]; rfl
    show (!decide (atK (kept.map kindU) x.1 ∈ _)) = _
    rw [ek]
  · obtain ⟨h1, h2⟩ := kindAt h k hk
    rw [h1, ov_get, mCons_pu, bd_pu, h2, zoomU_pu, mOp_pu]
    simp only [gNotInT, inB_tx, Option.map_some, ov_get]
theorem mLc_snd {xs : List (Tx × Tx)} (hl : xs.length ≤ line) : mLc (β := Unit) (pu xs) (fun _ => pu true) (fun x : Tx × Tx => pu x.2) = pu (xs.map (·.2)) := mLc_map hl fun _ _ => rfl
theorem mLc_lsign {xs : List (Tx × Tx)} (h : OneU xs) (hl : xs.length ≤ line) : mLc (β := Unit) (pu xs) (fun _ => pu true) (fun x : Tx × Tx => zoom (fun _ => ()) (fun b _ => b) (m_law_sign x)) = pu (xs.map signF) := mLc_map hl fun x hx => by rw [lsign_eq (h x hx), zoomU_pu]
theorem sign_join {xs : List (Tx × Tx)} (h : OneU xs) (hl : xs.length ≤ line) : gJoin [] (xs.map signF, ()) = some (xs.map signF).flatten := by
  unfold gJoin
  refine if_pos ⟨rfl, ?_⟩
  have : ∀ {xs : List (Tx × Tx)}, OneU xs → ((xs.map signF).map (·.length)).sum = xs.length := by
    intro xs
    induction xs with
    | nil => intro _; rfl
    | cons u us ih =>
      intro h
      rw [List.map_cons, List.map_cons, List.sum_cons, ih fun v hv => h v (List.mem_cons_of_mem _ hv), signF_one (h u List.mem_cons_self), List.length_cons]
      omega
  show ((xs.map signF).map (·.length)).sum ≤ line
  rw [this h]
  exact hl
theorem core_eq {kept : List (Tx × Tx)} {f L : Int} (hf : 0 ≤ f) (hL : 0 ≤ L) (hl : L < kept.length) : (rangeI f (L + 1)).map (fun k => signF (atU kept k)) = (cut kept (some f) (some (L + 1))).map signF := by
  rw [cut_mid hf (by omega)]
  apply List.ext_getElem
  · rw [List.length_map, rangeI_len, List.length_map, List.length_drop, List.length_take]
    omega
  · intro i h1 h2
    rw [List.length_map, rangeI_len] at h1
    rw [List.getElem_map, List.getElem_map, List.getElem_drop, List.getElem_take]
    congr 1
    unfold rangeI
    rw [List.getElem_map, List.getElem_range]
    unfold atU
    rw [atI_of (k := f.toNat + i) (by omega), List.getElem?_eq_getElem (by omega)]
    rfl
theorem form_eq {us : List (Tx × Tx)} (h : OneU us) (hl : us.length ≤ 100000) : m_form_of us = pu (formF us) := by
  have big : 100001 < line := by decide
  have n1 := needF_one h
  have nl := needF_len us
  unfold m_form_of mb_form_of formF
  simp only [mCons_pu, bd_pu, needed_eq h hl, zoomU_pu, mOp_pu]
  generalize needF us = kept at n1 nl
  simp only [kinds_eq n1 (show kept.length ≤ line by omega), zoomU_pu, bd_pu, mMap_pu, solid_eq, mMapO_pu, ov_get]
  have ms : mLc (β := Unit) (pu (enumL (kept.map kindU, ()))) (fun x3 : Int × Tx => pu (!decide (x3.2 ∈ [([115, 112, 97, 99, 101] : Tx), ([102, 101, 101, 100] : Tx), ([109, 97, 114, 107] : Tx)]))) (fun x3 : Int × Tx => pu x3.1) = pu (solF (kept.map kindU)) := by
    unfold mLc
    rw [mMapO_pu, chk_ok (by rw [enumL_len, List.length_map]; omega), ov_get, bd_pu, compM_pure (p := fun x : Int × Tx => !decide (x.2 ∈ [([115, 112, 97, 99, 101] : Tx), ([102, 101, 101, 100] : Tx), ([109, 97, 114, 107] : Tx)])) (g := fun x : Int × Tx => x.1) (fun _ _ => rfl) fun _ _ _ => rfl]
    rfl
  rw [ms, bd_pu]
  unfold coreF
  cases es : solF (kept.map kindU) with
  | nil =>
    simp only [List.isEmpty_nil, Bool.not_true, mNot_pu, Bool.not_false, mIf_pu, if_true, mLc_snd (xs := kept) (by omega), mCons_pu, mOp_pu, sgn_join n1 (show kept.length ≤ line by omega), ov_get, mMap_pu, mRet_pu, mThen_rt, rtD_id, retM_rt]
    rfl
  | cons f r =>
    have hf := sol_at (kept := kept) (k := f) (by rw [es]; exact List.mem_cons_self)
    have hL := sol_at (kept := kept) (k := (f :: r).getLast (List.cons_ne_nil f r)) (by rw [es]; exact List.getLast_mem _)
    generalize eL : (f :: r).getLast (List.cons_ne_nil f r) = L at hL
    have a0 : atI (f :: r) (0 : Int) = some f := atI_cons0
    have a1 : atI (f :: r) (-1 : Int) = some L := by rw [atI_lastOf, eL]
    have c1 := sgn_join (n1.sub (cut_mem (lo := none) (hi := some f))) (Nat.le_trans cut_len (by omega))
    have c2 := sign_join (n1.sub (cut_mem (lo := some f) (hi := some (L + 1)))) (Nat.le_trans cut_len (by omega))
    have c3 := sgn_join (n1.sub (cut_mem (lo := some (L + 1)) (hi := none))) (Nat.le_trans cut_len (by omega))
    have m1 := mLc_snd (xs := cut kept none (some f)) (Nat.le_trans cut_len (by omega))
    have m3 := mLc_snd (xs := cut kept (some (L + 1)) none) (Nat.le_trans cut_len (by omega))
    have s1 : (sgnT (cut kept none (some f))).length ≤ 100000 := by rw [sgn_len (n1.sub cut_mem)]; exact Nat.le_trans cut_len (by omega)
    have s3 : (sgnT (cut kept (some (L + 1)) none)).length ≤ 100000 := by rw [sgn_len (n1.sub cut_mem)]; exact Nat.le_trans cut_len (by omega)
    have b62 : (100001 : Int) < 2 ^ 62 := by decide
    have rg : gRange2 (f, L + 1, ()) = some (rangeI f (L + 1)) := by
      unfold gRange2
      rw [show ck62 (f, L + 1, ()).1 = some f from ck62_ok (i := f) ⟨by omega, by omega⟩, show ck62 (f, L + 1, ()).2.1 = some (L + 1) from ck62_ok (i := L + 1) ⟨by omega, by omega⟩]
      rfl
    have m2 : mLc (β := Unit) (pu (rangeI f (L + 1))) (fun _ => pu true) (fun x10 : Int => bd (mCons (ov (atI (kept.map kindU) x10)) (mCons (mOp (fun (x : Tx × Tx) (i : Int) => gK x.2 1 i) (ov (atI kept x10)) (pu (1 : Int))) (pu ()))) fun x => zoom (fun _ => ()) (fun b _ => b) (m_sign_shown x.1 x.2.1)) = pu ((cut kept (some f) (some (L + 1))).map signF) := by
      rw [mLc_map (g := fun k => signF (atU kept k)) (by rw [rangeI_len]; omega) fun k hk => ?_, core_eq hf.2.2.1 hL.2.2.1 hL.2.2.2]
      have hk := mem_rangeI hk
      have e : atI kept k = some kept[k.toNat] := by rw [atI_of (k := k.toNat) (by omega), List.getElem?_eq_getElem (by omega)]
      have e2 : atU kept k = kept[k.toNat] := by unfold atU; rw [e]; rfl
      have e3 : atI (kept.map kindU) k = some (kindU (atU kept k)) := by
        rw [atI_of (k := k.toNat) (by omega), List.getElem?_map, List.getElem?_eq_getElem (by omega), e2]
        rfl
      rw [e, e3, ← e2]
      simp only [ov_get, mOp_pu, gK, if_true, mCons_pu, bd_pu, sign_eq, zoomU_pu]
    simp only [List.isEmpty_cons, Bool.not_false, mNot_pu, Bool.not_true, ov_get, mIf_pu, Bool.false_eq_true, if_false, mThen_nx, a0, a1, mMap_pu, mOp_pu, gI, mSl_pu, m1, m3, mCons_pu, c1, c3, bd_pu, rg, mMapO_pu, hf.2.1, hL.2.1, zoomU_pu, gEqS_tx, feedLast_eq s1, feedFirst_eq s3]
    rw [m2]
    simp only [mCons_pu, mOp_pu, c2, ov_get, bd_pu]
    show _ = pu (endsF kept f ((f :: r).getLast (List.cons_ne_nil f r)))
    rw [eL]
    unfold endsF
    by_cases z1 : kindU (atU kept f) = ([122, 101, 114, 111] : Tx) <;> by_cases z2 : kindU (atU kept L) = ([122, 101, 114, 111] : Tx) <;>
      simp only [z1, z2, decide_true, decide_false, if_true, if_false, Bool.false_eq_true, mThen_nx, mRet_pu, retM_rt, pr3]
/-! ### forms put together -/
def unitsForF (t : T3 Tx Tx Tx) : List (Tx × Tx) := unitsF [(([99, 111, 108, 108, 97, 112, 115, 101] : Tx), t.a), (([112, 114, 101, 115, 101, 114, 118, 101] : Tx), t.b), (([99, 111, 108, 108, 97, 112, 115, 101] : Tx), t.c)]
theorem unitsFor_eq {t : T3 Tx Tx Tx} (h : (unitsForF t).length ≤ line) : m_units_for t = pu (unitsForF t) := by
  unfold m_units_for mb_units_for
  simp only [mOp_pu, gK, if_true, ov_get, mCons_pu, mMap_pu, mConsL_pu, mMapO_pu, chk3, bd_pu]
  rw [show m_units [pr2 (([99, 111, 108, 108, 97, 112, 115, 101] : Tx), t.a, ()), pr2 (([112, 114, 101, 115, 101, 114, 118, 101] : Tx), t.b, ()), pr2 (([99, 111, 108, 108, 97, 112, 115, 101] : Tx), t.c, ())] = pu (unitsForF t) from units_eq h, zoomU_pu, mRet_pu, retM_rt]
/-! ### tidy -/
def tidyStep (l : List (Tx × Tx)) (u : Tx × Tx) : List (Tx × Tx) := match l.getLast? with
  | some p => if p.1 = u.1 then l.dropLast ++ [(p.1, p.2 ++ u.2)] else l ++ [u]
  | none => l ++ [u]
def tidyF (us : List (Tx × Tx)) : List (Tx × Tx) := us.foldl tidyStep []
theorem unitsF_app (a b : List (Tx × Tx)) : unitsF (a ++ b) = unitsF a ++ unitsF b := List.flatMap_append
theorem unitsF_step {l : List (Tx × Tx)} {u : Tx × Tx} (h : ∃ c, u.2 = [c]) : unitsF (tidyStep l u) = unitsF l ++ [u] := by
  obtain ⟨m, s⟩ := u
  obtain ⟨c, e⟩ := h
  have e : s = [c] := e
  subst e
  have one : unitsF [(m, [c])] = [(m, [c])] := rfl
  unfold tidyStep
  cases hl : l.getLast? with
  | none => rw [unitsF_app, one]
  | some p =>
    have hne : l ≠ [] := fun z => by rw [z] at hl; cases hl
    have el : l = l.dropLast ++ [p] := by
      have := List.dropLast_concat_getLast hne
      rw [List.getLast?_eq_some_getLast hne] at hl
      rw [← Option.some.inj hl]
      exact this.symm
    show unitsF (if p.1 = m then _ else _) = _
    by_cases hm : p.1 = m
    · rw [if_pos hm, unitsF_app]
      have : unitsF l = unitsF l.dropLast ++ unitsF [p] := by rw [← unitsF_app, ← el]
      rw [this, List.append_assoc]
      congr 1
      subst hm
      simp [unitsF, signs]
    · rw [if_neg hm, unitsF_app, one]
theorem units_tidy {us : List (Tx × Tx)} (h : OneU us) : unitsF (tidyF us) = us := by
  have : ∀ (us l : List (Tx × Tx)), OneU us → unitsF (us.foldl tidyStep l) = unitsF l ++ us := by
    intro us
    induction us with
    | nil => intro l _; rw [List.foldl_nil, List.append_nil]
    | cons u us ih =>
      intro l h
      rw [List.foldl_cons, ih _ fun v hv => h v (List.mem_cons_of_mem _ hv), unitsF_step (h u List.mem_cons_self), List.append_assoc]
      rfl
  exact this us [] h
/-! ### units by what they do: the plain law of forms -/
inductive U where | sp | fd | mk (c : Nat) | so (c : Nat)
deriving DecidableEq
namespace U
def isMk : U → Bool | .mk _ => true | _ => false
def isSo : U → Bool | .so _ => true | _ => false
def sgn : U → Nat | .sp => 32 | .fd => 10 | .mk c => c | .so c => c
end U
section
variable {α : Type} (ab : α → U)
def mksG (g : List α) : List α := g.filter fun a => (ab a).isMk
def ffdG : List α → List α
  | [] => []
  | a :: g => if ab a = .fd then a :: mksG ab g else if (ab a).isMk then a :: ffdG g else ffdG g
def fspG : List α → List α
  | [] => []
  | a :: g => if ab a = .sp then a :: mksG ab g else if (ab a).isMk then a :: fspG g else fspG g
def wid (c : Nat) : Bool := decide (65 ≤ c ∧ c ≤ 90)
def jn : Option Nat → Option Nat → Bool
  | some a, some b => a == 94 || b == 94 || (wid a && wid b)
  | _, _ => false
def hasFd (g : List α) : Bool := g.any fun a => decide (ab a = .fd)
def hasSp (g : List α) : Bool := g.any fun a => decide (ab a = .sp)
def gpG (l r : Option Nat) (g : List α) : List α :=
  if l = some 10 ∨ r = some 10 then mksG ab g else if hasFd ab g then (if jn l r then mksG ab g else ffdG ab g) else fspG ab g
def needG (r0 : Option Nat) : Option Nat → List α → List α → List α
  | l, cur, [] => gpG ab l r0 cur
  | l, cur, a :: as => match ab a with
    | .so c => gpG ab l (some c) cur ++ a :: needG r0 (some c) [] as
    | _ => needG r0 l (cur ++ [a]) as
end
section
variable {α β : Type} {f : α → β} {ab : β → U}
theorem mksG_map (g : List α) : mksG ab (g.map f) = (mksG (fun a => ab (f a)) g).map f := by
  unfold mksG
  rw [List.filter_map]
  rfl
theorem ffdG_map : ∀ g : List α, ffdG ab (g.map f) = (ffdG (fun a => ab (f a)) g).map f
  | [] => rfl
  | a :: g => by
    rw [List.map_cons]
    unfold ffdG
    rw [mksG_map, ffdG_map g]
    split
    · rfl
    · split <;> rfl
theorem fspG_map : ∀ g : List α, fspG ab (g.map f) = (fspG (fun a => ab (f a)) g).map f
  | [] => rfl
  | a :: g => by
    rw [List.map_cons]
    unfold fspG
    rw [mksG_map, fspG_map g]
    split
    · rfl
    · split <;> rfl
theorem hasFd_map (g : List α) : hasFd ab (g.map f) = hasFd (fun a => ab (f a)) g := by
  unfold hasFd
  rw [List.any_map]
  rfl
theorem gpG_map (l r : Option Nat) (g : List α) : gpG ab l r (g.map f) = (gpG (fun a => ab (f a)) l r g).map f := by
  unfold gpG
  rw [mksG_map, ffdG_map, fspG_map, hasFd_map]
  split
  · rfl
  · split
    · split <;> rfl
    · rfl
theorem needG_map (r0 : Option Nat) : ∀ (l : Option Nat) (cur as : List α), needG ab r0 l (cur.map f) (as.map f) = (needG (fun a => ab (f a)) r0 l cur as).map f
  | l, cur, [] => gpG_map l r0 cur
  | l, cur, a :: as => by
    rw [List.map_cons]
    unfold needG
    have h1 := fun c => needG_map r0 (some c) [] as
    have h2 := needG_map r0 l (cur ++ [a]) as
    rw [List.map_append] at h2
    cases e : ab (f a) with
    | so c => simp only [gpG_map, List.map_append, List.map_cons]; rw [← h1 c]; rfl
    | sp => simp only; rw [← h2]; rfl
    | fd => simp only; rw [← h2]; rfl
    | mk c => simp only; rw [← h2]; rfl
end
/-! gaps of units -/
abbrev mks (g : List U) : List U := mksG (fun u => u) g
abbrev ffd (g : List U) : List U := ffdG (fun u => u) g
abbrev fsp (g : List U) : List U := fspG (fun u => u) g
abbrev fdIn (g : List U) : Bool := hasFd (fun u => u) g
abbrev spIn (g : List U) : Bool := hasSp (fun u => u) g
abbrev gp (l r : Option Nat) (g : List U) : List U := gpG (fun u => u) l r g
abbrev need (r0 l : Option Nat) (cur us : List U) : List U := needG (fun u => u) r0 l cur us
@[simp] theorem mks_nil : mks [] = [] := rfl
@[simp] theorem mks_sp (g : List U) : mks (.sp :: g) = mks g := rfl
@[simp] theorem mks_fd (g : List U) : mks (.fd :: g) = mks g := rfl
@[simp] theorem mks_so (c : Nat) (g : List U) : mks (.so c :: g) = mks g := rfl
@[simp] theorem mks_mk (c : Nat) (g : List U) : mks (.mk c :: g) = .mk c :: mks g := rfl
@[simp] theorem ffd_nil : ffd [] = [] := rfl
@[simp] theorem ffd_sp (g : List U) : ffd (.sp :: g) = ffd g := rfl
@[simp] theorem ffd_fd (g : List U) : ffd (.fd :: g) = .fd :: mks g := rfl
@[simp] theorem ffd_so (c : Nat) (g : List U) : ffd (.so c :: g) = ffd g := rfl
@[simp] theorem ffd_mk (c : Nat) (g : List U) : ffd (.mk c :: g) = .mk c :: ffd g := rfl
@[simp] theorem fsp_nil : fsp [] = [] := rfl
@[simp] theorem fsp_sp (g : List U) : fsp (.sp :: g) = .sp :: mks g := rfl
@[simp] theorem fsp_fd (g : List U) : fsp (.fd :: g) = fsp g := rfl
@[simp] theorem fsp_so (c : Nat) (g : List U) : fsp (.so c :: g) = fsp g := rfl
@[simp] theorem fsp_mk (c : Nat) (g : List U) : fsp (.mk c :: g) = .mk c :: fsp g := rfl
@[simp] theorem fdIn_nil : fdIn [] = false := rfl
@[simp] theorem fdIn_sp (g : List U) : fdIn (.sp :: g) = fdIn g := rfl
@[simp] theorem fdIn_fd (g : List U) : fdIn (.fd :: g) = true := rfl
@[simp] theorem fdIn_so (c : Nat) (g : List U) : fdIn (.so c :: g) = fdIn g := by simp [fdIn, hasFd]
@[simp] theorem fdIn_mk (c : Nat) (g : List U) : fdIn (.mk c :: g) = fdIn g := by simp [fdIn, hasFd]
@[simp] theorem spIn_nil : spIn [] = false := rfl
@[simp] theorem spIn_sp (g : List U) : spIn (.sp :: g) = true := rfl
@[simp] theorem spIn_fd (g : List U) : spIn (.fd :: g) = spIn g := rfl
@[simp] theorem spIn_so (c : Nat) (g : List U) : spIn (.so c :: g) = spIn g := by simp [spIn, hasSp]
@[simp] theorem spIn_mk (c : Nat) (g : List U) : spIn (.mk c :: g) = spIn g := by simp [spIn, hasSp]
@[simp] theorem mks_app (a b : List U) : mks (a ++ b) = mks a ++ mks b := List.filter_append ..
@[simp] theorem fdIn_app (a b : List U) : fdIn (a ++ b) = (fdIn a || fdIn b) := List.any_append
@[simp] theorem spIn_app (a b : List U) : spIn (a ++ b) = (spIn a || spIn b) := List.any_append
@[simp] theorem mks_mks (g : List U) : mks (mks g) = mks g := by induction g with | nil => rfl | cons u g ih => cases u <;> simp [ih]
@[simp] theorem mks_ffd (g : List U) : mks (ffd g) = mks g := by induction g with | nil => rfl | cons u g ih => cases u <;> simp [ih]
@[simp] theorem mks_fsp (g : List U) : mks (fsp g) = mks g := by induction g with | nil => rfl | cons u g ih => cases u <;> simp [ih]
@[simp] theorem fdIn_mks (g : List U) : fdIn (mks g) = false := by induction g with | nil => rfl | cons u g ih => cases u <;> simp [ih]
@[simp] theorem fdIn_ffd (g : List U) : fdIn (ffd g) = fdIn g := by induction g with | nil => rfl | cons u g ih => cases u <;> simp [ih]
@[simp] theorem fdIn_fsp (g : List U) : fdIn (fsp g) = false := by induction g with | nil => rfl | cons u g ih => cases u <;> simp [ih]
@[simp] theorem spIn_mks (g : List U) : spIn (mks g) = false := by induction g with | nil => rfl | cons u g ih => cases u <;> simp [ih]
@[simp] theorem spIn_fsp (g : List U) : spIn (fsp g) = spIn g := by induction g with | nil => rfl | cons u g ih => cases u <;> simp [ih]
@[simp] theorem spIn_ffd (g : List U) : spIn (ffd g) = false := by induction g with | nil => rfl | cons u g ih => cases u <;> simp [ih]
@[simp] theorem ffd_mks (g : List U) : ffd (mks g) = mks g := by induction g with | nil => rfl | cons u g ih => cases u <;> simp [ih]
@[simp] theorem fsp_mks (g : List U) : fsp (mks g) = mks g := by induction g with | nil => rfl | cons u g ih => cases u <;> simp [ih]
@[simp] theorem ffd_ffd (g : List U) : ffd (ffd g) = ffd g := by induction g with | nil => rfl | cons u g ih => cases u <;> simp [ih]
@[simp] theorem fsp_fsp (g : List U) : fsp (fsp g) = fsp g := by induction g with | nil => rfl | cons u g ih => cases u <;> simp [ih]
theorem ffd_no {g : List U} (h : fdIn g = false) : ffd g = mks g := by
  induction g with
  | nil => rfl
  | cons u g ih => cases u <;> simp_all
theorem fsp_no {g : List U} (h : spIn g = false) : fsp g = mks g := by
  induction g with
  | nil => rfl
  | cons u g ih => cases u <;> simp_all
theorem ffd_app (a b : List U) : ffd (a ++ b) = if fdIn a then ffd a ++ mks b else mks a ++ ffd b := by
  induction a with
  | nil => simp
  | cons u g ih => cases u <;> simp [ih] <;> split <;> simp_all
theorem fsp_app (a b : List U) : fsp (a ++ b) = if spIn a then fsp a ++ mks b else mks a ++ fsp b := by
  induction a with
  | nil => simp
  | cons u g ih => cases u <;> simp [ih] <;> split <;> simp_all
/-! ### forms of units -/
structure F where
  s : List U
  c : List U
  e : List U
deriving DecidableEq
def rd (g : List U) : List U := g.map fun u => match u with | .sp => .so 32 | .fd => .so 32 | u => u
def fl (c : Nat) (g : List U) : List U := if c = 94 ∧ fdIn g then mks g ++ [.fd] else g
def fe (c : Nat) (g : List U) : List U := if c = 94 ∧ fdIn g then .fd :: mks g else g
def rest : Nat → List U → List U → List U × List U
  | c, cur, [] => ([], fe c (gp (some c) none cur))
  | c, cur, .so d :: us => (rd (gp (some c) (some d) cur) ++ .so d :: (rest d [] us).1, (rest d [] us).2)
  | c, cur, u :: us => rest c (cur ++ [u]) us
def frmA : List U → List U → F
  | cur, [] => ⟨gp none none cur, [], []⟩
  | cur, .so c :: us => ⟨fl c (gp none (some c) cur), .so c :: (rest c [] us).1, (rest c [] us).2⟩
  | cur, u :: us => frmA (cur ++ [u]) us
def frm (us : List U) : F := frmA [] us
/-- signs that can be drawn -/
def Wf (u : U) : Prop := match u with | .so c => c ≠ 60 ∧ c ≠ 62 ∧ c ≠ 124 | .mk c => c = 60 ∨ c = 62 | _ => True
/-- non-solid -/
def Ns (g : List U) : Prop := ∀ u ∈ g, u.isSo = false
theorem Ns.nil : Ns [] := fun _ h => nomatch h
theorem Ns.snoc {g : List U} {u : U} (h : Ns g) (hu : u.isSo = false) : Ns (g ++ [u]) := fun v hv => by
  rcases List.mem_append.mp hv with z | z
  · exact h v z
  · rw [List.mem_singleton.mp z]; exact hu
theorem rest_ns {c : Nat} : ∀ {g cur us : List U}, Ns g → rest c cur (g ++ us) = rest c (cur ++ g) us
  | [], cur, us, _ => by simp
  | u :: g, cur, us, h => by
    have hu := h u List.mem_cons_self
    have ih := rest_ns (c := c) (g := g) (cur := cur ++ [u]) (us := us) fun v hv => h v (List.mem_cons_of_mem _ hv)
    cases u with
    | so d => cases hu
    | sp => show rest c (cur ++ [.sp]) (g ++ us) = _; rw [ih]; simp
    | fd => show rest c (cur ++ [.fd]) (g ++ us) = _; rw [ih]; simp
    | mk d => show rest c (cur ++ [.mk d]) (g ++ us) = _; rw [ih]; simp
theorem frmA_ns : ∀ {g cur us : List U}, Ns g → frmA cur (g ++ us) = frmA (cur ++ g) us
  | [], cur, us, _ => by simp
  | u :: g, cur, us, h => by
    have hu := h u List.mem_cons_self
    have ih := frmA_ns (g := g) (cur := cur ++ [u]) (us := us) fun v hv => h v (List.mem_cons_of_mem _ hv)
    cases u with
    | so d => cases hu
    | sp => show frmA (cur ++ [.sp]) (g ++ us) = _; rw [ih]; simp
    | fd => show frmA (cur ++ [.fd]) (g ++ us) = _; rw [ih]; simp
    | mk d => show frmA (cur ++ [.mk d]) (g ++ us) = _; rw [ih]; simp
theorem Ns.cons {g : List U} {u : U} (h : Ns g) (hu : u.isSo = false) : Ns (u :: g) := fun v hv => by
  rcases List.mem_cons.mp hv with z | z
  · rw [z]; exact hu
  · exact h v z
/-- a list of units: a gap, then perhaps a solid unit and more -/
theorem segs (us : List U) : (∃ g, Ns g ∧ us = g) ∨ ∃ g c vs, Ns g ∧ us = g ++ .so c :: vs := by
  induction us with
  | nil => exact .inl ⟨[], .nil, rfl⟩
  | cons u us ih =>
    have key : u.isSo = false → (∃ g, Ns g ∧ u :: us = g) ∨ ∃ g c vs, Ns g ∧ u :: us = g ++ .so c :: vs := fun hu => by
      rcases ih with ⟨g, h, e⟩ | ⟨g, c, vs, h, e⟩
      · exact .inl ⟨u :: g, h.cons hu, by rw [e]⟩
      · exact .inr ⟨u :: g, c, vs, h.cons hu, by rw [e]; rfl⟩
    cases u with
    | so c => exact .inr ⟨[], c, us, .nil, rfl⟩
    | sp => exact key rfl
    | fd => exact key rfl
    | mk d => exact key rfl
theorem frm_gap {g : List U} (h : Ns g) : frm g = ⟨gp none none g, [], []⟩ := by
  have := frmA_ns (cur := []) (us := []) h
  rw [List.append_nil] at this
  exact this
theorem frm_so {g us : List U} {c : Nat} (h : Ns g) : frm (g ++ .so c :: us) = ⟨fl c (gp none (some c) g), .so c :: (rest c [] us).1, (rest c [] us).2⟩ := frmA_ns (cur := []) h
theorem rest_gap {c : Nat} {g : List U} (h : Ns g) : rest c [] g = ([], fe c (gp (some c) none g)) := by
  have := rest_ns (c := c) (cur := []) (us := []) h
  rw [List.append_nil] at this
  exact this
theorem rest_so {g us : List U} {c d : Nat} (h : Ns g) : rest c [] (g ++ .so d :: us) = (rd (gp (some c) (some d) g) ++ .so d :: (rest d [] us).1, (rest d [] us).2) := rest_ns (cur := []) h
/-! gap lemmas -/
@[simp] theorem jn_none_left (r : Option Nat) : jn none r = false := by cases r <;> rfl
@[simp] theorem jn_none_right (l : Option Nat) : jn l none = false := by cases l <;> rfl
theorem gp_none (g : List U) : gp none none g = if fdIn g then ffd g else fsp g := by simp [gp, gpG]
theorem gp_left (c : Nat) (g : List U) : gp (some c) none g = if c = 10 then mks g else if fdIn g then ffd g else fsp g := by simp [gp, gpG]
theorem gp_right (c : Nat) (g : List U) : gp none (some c) g = if c = 10 then mks g else if fdIn g then ffd g else fsp g := by simp [gp, gpG]
theorem gp_both (c d : Nat) (g : List U) : gp (some c) (some d) g = if c = 10 ∨ d = 10 then mks g else if fdIn g then (if jn (some c) (some d) then mks g else ffd g) else fsp g := by simp [gp, gpG]
theorem jn94l (d : Nat) : jn (some 94) (some d) = true := by simp [jn]
theorem jn94r (c : Nat) : jn (some c) (some 94) = true := by simp [jn]
@[simp] theorem mks_fl (c : Nat) (g : List U) : mks (fl c g) = mks g := by unfold fl; split <;> simp
@[simp] theorem mks_fe (c : Nat) (g : List U) : mks (fe c g) = mks g := by unfold fe; split <;> simp
@[simp] theorem fdIn_fl (c : Nat) (g : List U) : fdIn (fl c g) = fdIn g := by
  unfold fl
  split
  · rename_i h; simp [h.2]
  · rfl
@[simp] theorem fdIn_fe (c : Nat) (g : List U) : fdIn (fe c g) = fdIn g := by
  unfold fe
  split
  · rename_i h; simp [h.2]
  · rfl
theorem fl_no {c : Nat} {g : List U} (h : fdIn g = false) : fl c g = g := by unfold fl; rw [if_neg]; simp [h]
theorem fe_no {c : Nat} {g : List U} (h : fdIn g = false) : fe c g = g := by unfold fe; rw [if_neg]; simp [h]
theorem fl_ne {c : Nat} {g : List U} (h : c ≠ 94) : fl c g = g := by unfold fl; rw [if_neg]; simp [h]
theorem fe_ne {c : Nat} {g : List U} (h : c ≠ 94) : fe c g = g := by unfold fe; rw [if_neg]; simp [h]
theorem fl_yes {g : List U} (h : fdIn g = true) : fl 94 g = mks g ++ [.fd] := by unfold fl; rw [if_pos ⟨rfl, h⟩]
theorem fe_yes {g : List U} (h : fdIn g = true) : fe 94 g = .fd :: mks g := by unfold fe; rw [if_pos ⟨rfl, h⟩]
/-- a gap behind a solid unit, taken for itself, then with the next solid one -/
theorem G1 (l d : Nat) (g : List U) : gp (some l) (some d) (fe l (gp (some l) none g)) = gp (some l) (some d) g := by
  rw [gp_left, gp_both, gp_both]
  by_cases h : l = 10
  · simp [h]
  by_cases z : l = 94
  · subst z
    cases hf : fdIn g
    · simp [fe_no]
    · simp [fe_yes, jn94l, hf]
  · simp only [h, z, fe_ne, ne_eq, not_false_eq_true, if_false, false_or]
    by_cases h2 : d = 10
    · cases hf : fdIn g <;> simp [h2]
    · cases hf : fdIn g <;> simp [h2, hf]
theorem G2 (l : Nat) (g : List U) (u : U) : fe l (gp (some l) none (fe l (gp (some l) none g) ++ [u])) = fe l (gp (some l) none (g ++ [u])) := by
  simp only [gp_left]
  by_cases h : l = 10
  · simp [h, fe_no]
  by_cases z : l = 94
  · subst z
    cases hf : fdIn g
    · cases hs : spIn g <;> cases u <;> simp [fe, hf, hs, ffd_app, fsp_app, fsp_no, ffd_no]
    · simp [fe, hf, ffd_app]
  · simp only [h, z, fe_ne, ne_eq, not_false_eq_true, if_false]
    cases hf : fdIn g
    · cases hs : spIn g <;> cases u <;> simp [hf, hs, ffd_app, fsp_app, fsp_no, ffd_no]
    · simp [hf, ffd_app]
theorem G3 (g : List U) (u : U) : gp none none (gp none none g ++ [u]) = gp none none (g ++ [u]) := by
  simp only [gp_none]
  cases hf : fdIn g
  · cases hs : spIn g <;> cases u <;> simp [hf, hs, ffd_app, fsp_app, fsp_no, ffd_no]
  · simp [hf, ffd_app]
theorem G4 (c : Nat) (g : List U) : gp none (some c) (gp none none g) = gp none (some c) g := by
  simp only [gp_none, gp_right]
  by_cases h : c = 10
  · cases hf : fdIn g <;> simp [h]
  · cases hf : fdIn g <;> simp [h, hf]
theorem G5 (c : Nat) (g : List U) (u : U) : fl c (gp none (some c) (u :: fl c (gp none (some c) g))) = fl c (gp none (some c) (u :: g)) := by
  simp only [gp_right]
  by_cases h : c = 10
  · cases u <;> simp [h, fl_no]
  by_cases z : c = 94
  · subst z
    cases hf : fdIn g
    · cases u <;> simp [fl_no, fl_yes, hf]
    · cases u <;> simp [fl_yes, hf, ffd_app, fl]
  · simp only [h, z, fl_ne, ne_eq, not_false_eq_true, if_false]
    cases hf : fdIn g <;> cases u <;> simp [hf]
theorem G5n (g : List U) (u : U) : gp none none (u :: gp none none g) = gp none none (u :: g) := by
  simp only [gp_none]
  cases hf : fdIn g <;> cases u <;> simp [hf]
theorem G6 (d : Nat) (g : List U) : gp (some d) none (gp none none g) = gp (some d) none g := by
  simp only [gp_none, gp_left]
  by_cases h : d = 10
  · cases hf : fdIn g <;> simp [h]
  · cases hf : fdIn g <;> simp [h, hf]
theorem G7 (d c : Nat) (g : List U) : gp (some d) (some c) (fl c (gp none (some c) g)) = gp (some d) (some c) g := by
  simp only [gp_right, gp_both]
  by_cases h : c = 10
  · simp [h]
  by_cases z : c = 94
  · subst z
    cases hf : fdIn g
    · simp [fl_no]
    · simp [fl_yes, jn94r, hf]
  · simp only [h, z, fl_ne, ne_eq, not_false_eq_true, if_false, or_false]
    by_cases h2 : d = 10
    · cases hf : fdIn g <;> simp [h2]
    · cases hf : fdIn g <;> simp [h2, hf]
/-! kept gaps stay -/
theorem G8 (c : Nat) (g : List U) : fl c (gp none (some c) (fl c (gp none (some c) g))) = fl c (gp none (some c) g) := by
  simp only [gp_right]
  by_cases h : c = 10
  · simp [h, fl_no]
  by_cases z : c = 94
  · subst z
    cases hf : fdIn g
    · simp [fl_no]
    · simp [fl_yes, hf, ffd_app]
  · simp only [h, z, fl_ne, ne_eq, not_false_eq_true, if_false]
    cases hf : fdIn g <;> simp [hf]
theorem G9 (c : Nat) (g : List U) : fe c (gp (some c) none (fe c (gp (some c) none g))) = fe c (gp (some c) none g) := by
  simp only [gp_left]
  by_cases h : c = 10
  · simp [h, fe_no]
  by_cases z : c = 94
  · subst z
    cases hf : fdIn g
    · simp [fe_no]
    · simp [fe, hf, ffd_app]
  · simp only [h, z, fe_ne, ne_eq, not_false_eq_true, if_false]
    cases hf : fdIn g <;> simp [hf]
theorem G10 (g : List U) : gp none none (gp none none g) = gp none none g := by
  simp only [gp_none]
  cases hf : fdIn g <;> simp [hf]
/-! ### a form and one more unit behind it, or in front of it -/
def stE (l : Nat) (e : List U) (u : U) : List U × List U := match u with
  | .so d => (rd (gp (some l) (some d) e) ++ [.so d], [])
  | u => ([], fe l (gp (some l) none (e ++ [u])))
def lastC : Nat → List U → Nat
  | l, [] => l
  | _, .so d :: us => lastC d us
  | l, _ :: us => lastC l us
theorem lastC_app (l : Nat) (a b : List U) : lastC l (a ++ b) = lastC (lastC l a) b := by
  induction a generalizing l with
  | nil => rfl
  | cons u a ih => cases u <;> exact ih _
theorem mem_gpG {a : U} {l r : Option Nat} {g : List U} (h : a ∈ gp l r g) : a ∈ g := by
  have h1 : ∀ g : List U, ∀ a ∈ mks g, a ∈ g := fun g a h => (List.mem_filter.mp h).1
  have h2 : ∀ g : List U, ∀ a ∈ ffd g, a ∈ g := fun g => by
    induction g with
    | nil => exact fun _ h => h
    | cons u g ih =>
      intro a h
      cases u with
      | fd => rw [ffd_fd] at h; rcases List.mem_cons.mp h with z | z; exact z ▸ List.mem_cons_self; exact List.mem_cons_of_mem _ (h1 g a z)
      | sp => exact List.mem_cons_of_mem _ (ih a h)
      | so c => exact List.mem_cons_of_mem _ (ih a h)
      | mk c => rw [ffd_mk] at h; rcases List.mem_cons.mp h with z | z; exact z ▸ List.mem_cons_self; exact List.mem_cons_of_mem _ (ih a z)
  have h3 : ∀ g : List U, ∀ a ∈ fsp g, a ∈ g := fun g => by
    induction g with
    | nil => exact fun _ h => h
    | cons u g ih =>
      intro a h
      cases u with
      | sp => rw [fsp_sp] at h; rcases List.mem_cons.mp h with z | z; exact z ▸ List.mem_cons_self; exact List.mem_cons_of_mem _ (h1 g a z)
      | fd => exact List.mem_cons_of_mem _ (ih a h)
      | so c => exact List.mem_cons_of_mem _ (ih a h)
      | mk c => rw [fsp_mk] at h; rcases List.mem_cons.mp h with z | z; exact z ▸ List.mem_cons_self; exact List.mem_cons_of_mem _ (ih a z)
  unfold gp gpG at h
  split at h
  · exact h1 g a h
  · split at h
    · split at h
      · exact h1 g a h
      · exact h2 g a h
    · exact h3 g a h
theorem ns_gp {l r : Option Nat} {g : List U} (h : Ns g) : Ns (gp l r g) := fun a ha => h a (mem_gpG ha)
theorem ns_mks (g : List U) : Ns (mks g) := fun a ha => by
  have := (List.mem_filter.mp ha).2
  cases a <;> first | rfl | cases this
theorem ns_fl {c : Nat} {g : List U} (h : Ns g) : Ns (fl c g) := by
  unfold fl
  split
  · exact (ns_mks g).snoc rfl
  · exact h
theorem ns_fe {c : Nat} {g : List U} (h : Ns g) : Ns (fe c g) := by
  unfold fe
  split
  · exact (ns_mks g).cons rfl
  · exact h
/-- behind the first solid unit -/
theorem rest_step (us : List U) (u : U) : ∀ (n : Nat) (c : Nat) (us : List U), us.length ≤ n → rest c [] (us ++ [u]) = ((rest c [] us).1 ++ (stE (lastC c us) (rest c [] us).2 u).1, (stE (lastC c us) (rest c [] us).2 u).2) := by
  have ns_last : ∀ (c : Nat) (g : List U), Ns g → lastC c g = c := fun c g => by
    induction g with
    | nil => intro _; rfl
    | cons v g ih =>
      intro h
      have hv := h v List.mem_cons_self
      have := ih fun w hw => h w (List.mem_cons_of_mem _ hw)
      cases v with
      | so d => cases hv
      | sp => exact this
      | fd => exact this
      | mk d => exact this
  have gap : ∀ (c : Nat) (g : List U), Ns g → rest c [] (g ++ [u]) = ((rest c [] g).1 ++ (stE (lastC c g) (rest c [] g).2 u).1, (stE (lastC c g) (rest c [] g).2 u).2) := fun c g h => by
    rw [rest_gap h, ns_last c g h]
    have hn : u.isSo = false → rest c [] (g ++ [u]) = ([], fe c (gp (some c) none (fe c (gp (some c) none g) ++ [u]))) := fun hu => by rw [rest_gap (h.snoc hu), G2]
    cases u with
    | so d =>
      rw [rest_so h]
      show (rd (gp (some c) (some d) g) ++ [.so d], _) = ([] ++ (rd (gp (some c) (some d) (fe c (gp (some c) none g))) ++ [.so d]), _)
      rw [G1]
      refine Prod.ext rfl ?_
      show fe d (gp (some d) none []) = []
      rw [gp_left]
      split <;> exact fe_no rfl
    | sp => exact hn rfl
    | fd => exact hn rfl
    | mk d => exact hn rfl
  intro n
  induction n with
  | zero =>
    intro c us hl
    have : us = [] := List.length_eq_zero_iff.mp (Nat.le_zero.mp hl)
    subst this
    exact gap c [] .nil
  | succ n ih =>
    intro c us hl
    rcases segs us with ⟨g, h, rfl⟩ | ⟨g, d, vs, h, rfl⟩
    · exact gap c us h
    · have := ih d vs (by simp at hl; omega)
      rw [List.append_assoc, List.cons_append, rest_so h, this, rest_so h, lastC_app]
      show (_, _) = (_, _)
      refine Prod.ext ?_ rfl
      show rd _ ++ .so d :: ((rest d [] vs).1 ++ _) = (rd _ ++ .so d :: (rest d [] vs).1) ++ _
      rw [List.append_assoc]
      rfl
theorem rest_last : ∀ (n : Nat) (c : Nat) (us : List U), us.length ≤ n → lastC c (rest c [] us).1 = lastC c us := by
  have nsl : ∀ (c : Nat) (g : List U), Ns g → lastC c g = c := fun c g => by
    induction g with
    | nil => intro _; rfl
    | cons v g ih =>
      intro h
      have hv := h v List.mem_cons_self
      have := ih fun w hw => h w (List.mem_cons_of_mem _ hw)
      cases v with
      | so d => cases hv
      | sp => exact this
      | fd => exact this
      | mk d => exact this
  intro n
  induction n with
  | zero =>
    intro c us hl
    have : us = [] := List.length_eq_zero_iff.mp (Nat.le_zero.mp hl)
    subst this
    rfl
  | succ n ih =>
    intro c us hl
    rcases segs us with ⟨g, h, rfl⟩ | ⟨g, d, vs, h, rfl⟩
    · rw [rest_gap h, nsl c us h]; rfl
    · have := ih d vs (by simp at hl; omega)
      rw [rest_so h, lastC_app, lastC_app]
      exact this
def stR (f : F) (u : U) : F := match f.c with
  | [] => match u with
    | .so c => ⟨fl c (gp none (some c) f.s), [.so c], []⟩
    | u => ⟨gp none none (f.s ++ [u]), [], []⟩
  | x :: c => ⟨f.s, x :: c ++ (stE (lastC 0 (x :: c)) f.e u).1, (stE (lastC 0 (x :: c)) f.e u).2⟩
theorem frm_snoc (us : List U) (u : U) : frm (us ++ [u]) = stR (frm us) u := by
  rcases segs us with ⟨g, h, rfl⟩ | ⟨g, d, vs, h, rfl⟩
  · rw [frm_gap h]
    have hn : u.isSo = false → frm (us ++ [u]) = ⟨gp none none (gp none none us ++ [u]), [], []⟩ := fun hu => by rw [frm_gap (h.snoc hu), G3]
    cases u with
    | so c =>
      rw [frm_so h]
      show (⟨_, .so c :: [], fe c (gp (some c) none [])⟩ : F) = ⟨fl c (gp none (some c) (gp none none us)), [.so c], []⟩
      rw [G4, gp_left]
      have : fe c (if c = 10 then mks [] else if fdIn [] then ffd [] else fsp []) = [] := by split <;> exact fe_no rfl
      rw [this]
    | sp => exact hn rfl
    | fd => exact hn rfl
    | mk d => exact hn rfl
  · rw [List.append_assoc, List.cons_append, frm_so h, frm_so h, rest_step vs u vs.length d vs (Nat.le_refl _)]
    unfold stR
    show (⟨_, .so d :: (_ ++ _), _⟩ : F) = ⟨_, .so d :: (rest d [] vs).1 ++ _, _⟩
    have : lastC 0 (.so d :: (rest d [] vs).1) = lastC d vs := rest_last vs.length d vs (Nat.le_refl _)
    rw [this]
    rfl
def stL (u : U) (f : F) : F := match u, f.c with
  | .so d, [] => ⟨[], [.so d], fe d (gp (some d) none f.s)⟩
  | .so d, .so c :: cs => ⟨[], .so d :: (rd (gp (some d) (some c) f.s) ++ .so c :: cs), f.e⟩
  | u, .so c :: cs => ⟨fl c (gp none (some c) (u :: f.s)), .so c :: cs, f.e⟩
  | u, [] => ⟨gp none none (u :: f.s), [], []⟩
  | _, _ => f
theorem frm_cons (u : U) (us : List U) : frm (u :: us) = stL u (frm us) := by
  rcases segs us with ⟨g, h, rfl⟩ | ⟨g, d, vs, h, rfl⟩
  · have hn : u.isSo = false → frm (u :: us) = ⟨gp none none (u :: gp none none us), [], []⟩ := fun hu => by rw [frm_gap (h.cons hu), G5n]
    rw [frm_gap h]
    cases u with
    | so c =>
      have := frm_so (g := []) (c := c) (us := us) .nil
      rw [List.nil_append] at this
      rw [this, rest_gap h]
      show (⟨fl c (gp none (some c) []), [.so c], fe c (gp (some c) none us)⟩ : F) = ⟨[], [.so c], fe c (gp (some c) none (gp none none us))⟩
      rw [G6, gp_right]
      have : fl c (if c = 10 then mks [] else if fdIn [] then ffd [] else fsp []) = [] := by split <;> exact fl_no rfl
      rw [this]
    | sp => exact hn rfl
    | fd => exact hn rfl
    | mk d => exact hn rfl
  · have hn : u.isSo = false → frm (u :: (g ++ .so d :: vs)) = ⟨fl d (gp none (some d) (u :: fl d (gp none (some d) g))), .so d :: (rest d [] vs).1, (rest d [] vs).2⟩ := fun hu => by
      have := frm_so (c := d) (us := vs) (h.cons hu)
      rw [List.cons_append] at this
      rw [this, G5]
    rw [frm_so h]
    cases u with
    | so c =>
      have := frm_so (g := []) (c := c) (us := g ++ .so d :: vs) .nil
      rw [List.nil_append] at this
      rw [this, rest_so h]
      show (⟨fl c (gp none (some c) []), .so c :: (rd (gp (some c) (some d) g) ++ .so d :: (rest d [] vs).1), (rest d [] vs).2⟩ : F) = ⟨[], .so c :: (rd (gp (some c) (some d) (fl d (gp none (some d) g))) ++ .so d :: (rest d [] vs).1), (rest d [] vs).2⟩
      rw [G7, gp_right]
      have : fl c (if c = 10 then mks [] else if fdIn [] then ffd [] else fsp []) = [] := by split <;> exact fl_no rfl
      rw [this]
    | sp => exact hn rfl
    | fd => exact hn rfl
    | mk d => exact hn rfl
/-- alike parts may be exchanged -/
theorem frm_right {us vs : List U} (h : frm us = frm vs) (b : List U) : frm (us ++ b) = frm (vs ++ b) := by
  induction b generalizing us vs with
  | nil => rw [List.append_nil, List.append_nil]; exact h
  | cons u b ih =>
    have := ih (us := us ++ [u]) (vs := vs ++ [u]) (by rw [frm_snoc, frm_snoc, h])
    rw [List.append_assoc, List.append_assoc] at this
    exact this
theorem frm_left {us vs : List U} (h : frm us = frm vs) (a : List U) : frm (a ++ us) = frm (a ++ vs) := by
  induction a with
  | nil => exact h
  | cons u a ih => rw [List.cons_append, List.cons_append, frm_cons, frm_cons, ih]
theorem frm_in {us vs : List U} (h : frm us = frm vs) (a b : List U) : frm (a ++ us ++ b) = frm (a ++ vs ++ b) := frm_right (frm_left h a) b
theorem frm_both {us us' vs vs' : List U} (h : frm us = frm us') (h2 : frm vs = frm vs') : frm (us ++ vs) = frm (us' ++ vs') := (frm_right h vs).trans (frm_left h2 us')
/-! ### the units of a form have this form -/
def unF (f : F) : List U := f.s ++ f.c ++ f.e
/-- marks alone -/
def Mk (g : List U) : Prop := mks g = g
theorem gp_mks (l r : Option Nat) {g : List U} (h : Mk g) : gp l r g = g := by
  have h : mks g = g := h
  have hf : fdIn g = false := by rw [← h]; simp
  have hs : spIn g = false := by rw [← h]; simp
  unfold gp gpG
  split
  · exact h
  · rw [show hasFd (fun u => u) g = false from hf]
    exact (fsp_no hs).trans h
theorem rd_mks {g : List U} : rd (mks g) = mks g := by
  induction g with
  | nil => rfl
  | cons u g ih =>
    cases u with
    | mk c => show U.mk c :: rd (mks g) = _; rw [ih]; rfl
    | sp => exact ih
    | fd => exact ih
    | so c => exact ih
theorem rest_mk {c : Nat} {g us : List U} (h : Mk g) (d : Nat) : rest c [] (g ++ .so d :: us) = (g ++ .so d :: (rest d [] us).1, (rest d [] us).2) := by
  have hn : Ns g := by rw [← show mks g = g from h]; exact ns_mks g
  have hr : rd g = g := by rw [← show mks g = g from h]; exact rd_mks
  rw [rest_so hn, gp_mks _ _ h, hr]
/-- a shown gap: marks, or a solid space among marks -/
theorem rd_cases (c d : Nat) {g : List U} (h : Ns g) : Mk (rd (gp (some c) (some d) g)) ∨ ∃ a b, Mk a ∧ Mk b ∧ rd (gp (some c) (some d) g) = a ++ .so 32 :: b := by
  have m1 : Mk (rd (mks g)) := by rw [rd_mks]; exact mks_mks g
  have m2 : ∀ g : List U, Ns g → Mk (rd (ffd g)) ∨ ∃ a b, Mk a ∧ Mk b ∧ rd (ffd g) = a ++ .so 32 :: b := fun g => by
    induction g with
    | nil => exact fun _ => .inl rfl
    | cons u g ih =>
      intro h
      have ih := ih fun w hw => h w (List.mem_cons_of_mem _ hw)
      cases u with
      | so d => exact ih
      | sp => exact ih
      | fd => exact .inr ⟨[], rd (mks g), rfl, by rw [rd_mks]; exact mks_mks g, rfl⟩
      | mk d =>
        rcases ih with ih | ⟨a, b, ha, hb, e⟩
        · refine .inl ?_
          show U.mk d :: mks (rd (ffd g)) = _
          rw [show mks (rd (ffd g)) = rd (ffd g) from ih]
          rfl
        · refine .inr ⟨.mk d :: a, b, ?_, hb, ?_⟩
          · show U.mk d :: mks a = _
            rw [show mks a = a from ha]
          · show U.mk d :: rd (ffd g) = _
            rw [e]
            rfl
  have m3 : ∀ g : List U, Ns g → Mk (rd (fsp g)) ∨ ∃ a b, Mk a ∧ Mk b ∧ rd (fsp g) = a ++ .so 32 :: b := fun g => by
    induction g with
    | nil => exact fun _ => .inl rfl
    | cons u g ih =>
      intro h
      have ih := ih fun w hw => h w (List.mem_cons_of_mem _ hw)
      cases u with
      | so d => exact ih
      | fd => exact ih
      | sp => exact .inr ⟨[], rd (mks g), rfl, by rw [rd_mks]; exact mks_mks g, rfl⟩
      | mk d =>
        rcases ih with ih | ⟨a, b, ha, hb, e⟩
        · refine .inl ?_
          show U.mk d :: mks (rd (fsp g)) = _
          rw [show mks (rd (fsp g)) = rd (fsp g) from ih]
          rfl
        · refine .inr ⟨.mk d :: a, b, ?_, hb, ?_⟩
          · show U.mk d :: mks a = _
            rw [show mks a = a from ha]
          · show U.mk d :: rd (fsp g) = _
            rw [e]
            rfl
  rw [gp_both]
  split
  · exact .inl m1
  · split
    · split
      · exact .inl m1
      · exact m2 g h
    · exact m3 g h
/-- a shown gap and the next solid unit -/
theorem rest_rd {c : Nat} {g us : List U} (h : Ns g) (d : Nat) : rest c [] (rd (gp (some c) (some d) g) ++ .so d :: us) = (rd (gp (some c) (some d) g) ++ .so d :: (rest d [] us).1, (rest d [] us).2) := by
  rcases rd_cases c d h with k | ⟨a, b, ha, hb, e⟩
  · exact rest_mk k d
  · rw [e, List.append_assoc, List.cons_append, rest_mk ha 32, rest_mk hb d, List.append_assoc]
    rfl
theorem rest_un : ∀ (n : Nat) (c : Nat) (us : List U), us.length ≤ n → rest c [] ((rest c [] us).1 ++ (rest c [] us).2) = rest c [] us := by
  intro n
  have gap : ∀ (c : Nat) (g : List U), Ns g → rest c [] ((rest c [] g).1 ++ (rest c [] g).2) = rest c [] g := fun c g h => by
    rw [rest_gap h]
    show rest c [] (fe c (gp (some c) none g)) = _
    rw [rest_gap (ns_fe (ns_gp h)), G9]
  induction n with
  | zero =>
    intro c us hl
    have : us = [] := List.length_eq_zero_iff.mp (Nat.le_zero.mp hl)
    subst this
    exact gap c [] .nil
  | succ n ih =>
    intro c us hl
    rcases segs us with ⟨g, h, rfl⟩ | ⟨g, d, vs, h, rfl⟩
    · exact gap c us h
    · have := ih d vs (by simp at hl; omega)
      rw [rest_so h, List.append_assoc, List.cons_append, rest_rd h, this]
theorem frm_un (us : List U) : frm (unF (frm us)) = frm us := by
  unfold unF
  rcases segs us with ⟨g, h, e⟩ | ⟨g, d, vs, h, e⟩
  · rw [e, frm_gap h]
    show frm (gp none none g ++ [] ++ []) = _
    rw [List.append_nil, List.append_nil, frm_gap (ns_gp h), G10]
  · rw [e, frm_so h]
    show frm (fl d (gp none (some d) g) ++ .so d :: (rest d [] vs).1 ++ (rest d [] vs).2) = _
    rw [List.append_assoc, List.cons_append, frm_so (ns_fl (ns_gp h)), G8, rest_un vs.length d vs (Nat.le_refl _)]
/-- together -/
theorem frm_tog (us vs : List U) : frm (unF (frm us) ++ unF (frm vs)) = frm (us ++ vs) := frm_both (frm_un us) (frm_un vs)
/-! ### the units of a fragment by what they do -/
def chU (u : Tx × Tx) : Nat := u.2.headD 0
def absU (u : Tx × Tx) : U := if kindU u = ([115, 112, 97, 99, 101] : Tx) then .sp else if kindU u = ([102, 101, 101, 100] : Tx) then .fd else if kindU u = ([109, 97, 114, 107] : Tx) then .mk (chU u) else if kindU u = ([101, 110, 100] : Tx) then .so 10 else .so (chU u)
def kdO (c : Nat) : Tx := if c = 10 then ([101, 110, 100] : Tx) else if c = 94 then ([122, 101, 114, 111] : Tx) else if wid c = true then ([119, 105, 100, 101] : Tx) else ([111, 116, 104, 101, 114] : Tx)
theorem az_wid (c : Nat) : (∃ d ∈ ([65, 66, 67, 68, 69, 70, 71, 72, 73, 74, 75, 76, 77, 78, 79, 80, 81, 82, 83, 84, 85, 86, 87, 88, 89, 90] : Tx), ([c] : Tx) = [d]) ↔ wid c = true := by
  rw [mem1]
  unfold wid
  constructor
  · intro h
    simp at h ⊢
    omega
  · intro h
    simp at h ⊢
    omega
theorem kdO_end (c : Nat) : kdO c = ([101, 110, 100] : Tx) ↔ c = 10 := by
  unfold kdO
  by_cases h : c = 10
  · simp [h]
  · rw [if_neg h]
    split
    · exact ⟨fun z => absurd z (by decide), fun z => absurd z h⟩
    · split
      · exact ⟨fun z => absurd z (by decide), fun z => absurd z h⟩
      · exact ⟨fun z => absurd z (by decide), fun z => absurd z h⟩
theorem kdO_zero (c : Nat) : kdO c = ([122, 101, 114, 111] : Tx) ↔ c = 94 := by
  unfold kdO
  by_cases h : c = 10
  · rw [if_pos h]; exact ⟨fun z => absurd z (by decide), fun z => by omega⟩
  · rw [if_neg h]
    by_cases h2 : c = 94
    · simp [h2]
    · rw [if_neg h2]
      split
      · exact ⟨fun z => absurd z (by decide), fun z => absurd z h2⟩
      · exact ⟨fun z => absurd z (by decide), fun z => absurd z h2⟩
theorem kdO_wide (c : Nat) : kdO c = ([119, 105, 100, 101] : Tx) ↔ wid c = true := by
  unfold kdO
  by_cases h : c = 10
  · subst h; exact ⟨fun z => absurd z (by decide), fun z => absurd z (by decide)⟩
  · rw [if_neg h]
    by_cases h2 : c = 94
    · subst h2; exact ⟨fun z => absurd z (by decide), fun z => absurd z (by decide)⟩
    · rw [if_neg h2]
      by_cases h3 : wid c = true
      · simp [h3]
      · rw [if_neg h3]; exact ⟨fun z => absurd z (by decide), fun z => absurd z h3⟩
theorem kdO_solid (c : Nat) : kdO c ∉ [([115, 112, 97, 99, 101] : Tx), ([102, 101, 101, 100] : Tx), ([109, 97, 114, 107] : Tx)] := by
  unfold kdO
  split
  · decide
  · split
    · decide
    · split <;> decide
theorem abs_cases {u : Tx × Tx} (h : ∃ c, u.2 = [c]) : (absU u = .sp ∧ kindU u = ([115, 112, 97, 99, 101] : Tx) ∧ u.2 = [32]) ∨ (absU u = .fd ∧ kindU u = ([102, 101, 101, 100] : Tx) ∧ u.2 = [10]) ∨ (∃ c, absU u = .mk c ∧ kindU u = ([109, 97, 114, 107] : Tx) ∧ u.2 = [c] ∧ (c = 60 ∨ c = 62)) ∨ (∃ c, absU u = .so c ∧ kindU u = kdO c ∧ signF u = [c] ∧ c ≠ 60 ∧ c ≠ 62 ∧ c ≠ 124) := by
  obtain ⟨m, s⟩ := u
  obtain ⟨c, e⟩ := h
  have e : s = [c] := e
  subst e
  have ek : kindU (m, [c]) = kindF m [c] := rfl
  have ec : chU (m, [c]) = c := rfl
  have end_ : kindU (m, [c]) = ([101, 110, 100] : Tx) → (∃ c', absU (m, [c]) = .so c' ∧ kindU (m, [c]) = kdO c' ∧ signF (m, [c]) = [c'] ∧ c' ≠ 60 ∧ c' ≠ 62 ∧ c' ≠ 124) := fun hk => by
    refine ⟨10, ?_, ?_, ?_, by decide, by decide, by decide⟩
    · unfold absU; rw [hk, if_neg (by decide), if_neg (by decide), if_neg (by decide), if_pos rfl]
    · rw [hk]; decide
    · unfold signF; rw [if_pos hk]
  have so_ : kindU (m, [c]) = kdO c → c ≠ 10 → c ≠ 60 → c ≠ 62 → c ≠ 124 → (∃ c', absU (m, [c]) = .so c' ∧ kindU (m, [c]) = kdO c' ∧ signF (m, [c]) = [c'] ∧ c' ≠ 60 ∧ c' ≠ 62 ∧ c' ≠ 124) := fun hk h1 h2 h3 h4 => by
    have ns := kdO_solid c
    have ne : kdO c ≠ ([101, 110, 100] : Tx) := fun z => h1 ((kdO_end c).mp z)
    refine ⟨c, ?_, hk, ?_, h2, h3, h4⟩
    · unfold absU
      rw [hk, if_neg (fun z => ns (by rw [z]; decide)), if_neg (fun z => ns (by rw [z]; decide)), if_neg (fun z => ns (by rw [z]; decide)), if_neg ne, ec]
    · unfold signF
      rw [hk, if_neg ne, if_neg (fun z => ns (by simp only [List.mem_cons] at z ⊢; rcases z with z | z | z; exact .inl z; exact .inr (.inl z); cases z))]
  by_cases h1 : c = 32
  · subst h1
    by_cases h0 : m = ([112, 114, 101, 115, 101, 114, 118, 101] : Tx)
    · subst h0
      exact .inr (.inr (.inr (so_ (by decide) (by decide) (by decide) (by decide) (by decide))))
    · have hk : kindU (m, [32]) = ([115, 112, 97, 99, 101] : Tx) := by rw [ek]; unfold kindF; rw [if_pos rfl, if_neg h0]
      exact .inl ⟨by unfold absU; rw [if_pos hk], hk, rfl⟩
  by_cases h2 : c = 10
  · subst h2
    by_cases h0 : m = ([99, 111, 108, 108, 97, 112, 115, 101] : Tx)
    · subst h0
      exact .inr (.inl ⟨by decide, by decide, rfl⟩)
    · have hk : kindU (m, [10]) = ([101, 110, 100] : Tx) := by rw [ek]; unfold kindF; rw [if_neg (by decide), if_pos rfl, if_neg h0]
      exact .inr (.inr (.inr (end_ hk)))
  have eK : kindU (m, [c]) = if ([c] : Tx) = [124] then ([101, 110, 100] : Tx) else if ([c] : Tx) = [94] then ([122, 101, 114, 111] : Tx) else if ([c] : Tx) = [60] ∨ ([c] : Tx) = [62] then ([109, 97, 114, 107] : Tx) else if ∃ d ∈ ([65, 66, 67, 68, 69, 70, 71, 72, 73, 74, 75, 76, 77, 78, 79, 80, 81, 82, 83, 84, 85, 86, 87, 88, 89, 90] : Tx), ([c] : Tx) = [d] then ([119, 105, 100, 101] : Tx) else ([111, 116, 104, 101, 114] : Tx) := by
    rw [ek]; unfold kindF; rw [if_neg (by simpa using h1), if_neg (by simpa using h2)]
  by_cases h3 : c = 124
  · subst h3
    exact .inr (.inr (.inr (end_ (by rw [eK, if_pos rfl]))))
  rw [if_neg (by simpa using h3)] at eK
  by_cases h4 : c = 94
  · subst h4
    exact .inr (.inr (.inr (so_ (by rw [eK, if_pos rfl]; rfl) (by decide) (by decide) (by decide) (by decide))))
  rw [if_neg (by simpa using h4)] at eK
  by_cases h5 : c = 60 ∨ c = 62
  · rw [if_pos (by simpa using h5)] at eK
    exact .inr (.inr (.inl ⟨c, by unfold absU; rw [eK, ec, if_neg (by decide), if_neg (by decide), if_pos rfl], eK, rfl, h5⟩))
  rw [if_neg (by simpa using h5)] at eK
  rw [not_or] at h5
  refine .inr (.inr (.inr (so_ ?_ h2 h5.1 h5.2 h3)))
  rw [eK]
  unfold kdO
  rw [if_neg h2, if_neg h4]
  by_cases h6 : wid c = true
  · rw [if_pos ((az_wid c).mpr h6), if_pos h6]
  · rw [if_neg (fun z => h6 ((az_wid c).mp z)), if_neg h6]
theorem abs_sgn {u : Tx × Tx} (h : ∃ c, u.2 = [c]) (hs : (absU u).isSo = false) : u.2 = [(absU u).sgn] := by
  rcases abs_cases h with ⟨e, _, h⟩ | ⟨e, _, h⟩ | ⟨c, e, _, h, _⟩ | ⟨c, e, _⟩
  · rw [e]; exact h
  · rw [e]; exact h
  · rw [e]; exact h
  · rw [e] at hs; cases hs
theorem abs_wf {u : Tx × Tx} (h : ∃ c, u.2 = [c]) : Wf (absU u) := by
  rcases abs_cases h with ⟨e, _⟩ | ⟨e, _⟩ | ⟨c, e, _, _, h⟩ | ⟨c, e, _, _, h⟩
  · rw [e]; trivial
  · rw [e]; trivial
  · rw [e]; exact h
  · rw [e]; exact h
theorem abs_solid {u : Tx × Tx} (h : ∃ c, u.2 = [c]) : (absU u).isSo = !decide (kindU u ∈ [([115, 112, 97, 99, 101] : Tx), ([102, 101, 101, 100] : Tx), ([109, 97, 114, 107] : Tx)]) := by
  rcases abs_cases h with ⟨e, k, _⟩ | ⟨e, k, _⟩ | ⟨c, e, k, _⟩ | ⟨c, e, k, _⟩
  · rw [e, k]; decide
  · rw [e, k]; decide
  · rw [e, k]
    show false = _
    decide
  · rw [e, k, decide_eq_false (kdO_solid c)]; rfl
theorem abs_white {u : Tx × Tx} (h : ∃ c, u.2 = [c]) : decide (kindU u ∈ [([115, 112, 97, 99, 101] : Tx), ([102, 101, 101, 100] : Tx)]) = (!(absU u).isSo && !(absU u).isMk) := by
  rcases abs_cases h with ⟨e, k, _⟩ | ⟨e, k, _⟩ | ⟨c, e, k, _⟩ | ⟨c, e, k, _⟩
  · rw [e, k]; decide
  · rw [e, k]; decide
  · rw [e, k]
    show decide (([109, 97, 114, 107] : Tx) ∈ [([115, 112, 97, 99, 101] : Tx), ([102, 101, 101, 100] : Tx)]) = false
    decide
  · have := kdO_solid c
    rw [e, k]
    show decide _ = false
    exact decide_eq_false fun z => this (by simp only [List.mem_cons] at z ⊢; rcases z with z | z | z; exact .inl z; exact .inr (.inl z); cases z)
theorem abs_fd {u : Tx × Tx} (h : ∃ c, u.2 = [c]) : absU u = .fd ↔ kindU u = ([102, 101, 101, 100] : Tx) := by
  rcases abs_cases h with ⟨e, k, _⟩ | ⟨e, k, _⟩ | ⟨c, e, k, _⟩ | ⟨c, e, k, _⟩
  · rw [e, k]; decide
  · rw [e, k]; decide
  · rw [e, k]; exact ⟨fun z => (nomatch z), fun z => absurd z (by decide)⟩
  · rw [e, k]; exact ⟨fun z => (nomatch z), fun z => absurd (by rw [z]; decide) (kdO_solid c)⟩
theorem abs_sp {u : Tx × Tx} (h : ∃ c, u.2 = [c]) : absU u = .sp ↔ kindU u = ([115, 112, 97, 99, 101] : Tx) := by
  rcases abs_cases h with ⟨e, k, _⟩ | ⟨e, k, _⟩ | ⟨c, e, k, _⟩ | ⟨c, e, k, _⟩
  · rw [e, k]; decide
  · rw [e, k]; decide
  · rw [e, k]; exact ⟨fun z => (nomatch z), fun z => absurd z (by decide)⟩
  · rw [e, k]; exact ⟨fun z => (nomatch z), fun z => absurd (by rw [z]; decide) (kdO_solid c)⟩
/-! the gaps, one behind another -/
def gapsR (r0 : Option Tx) : Option Tx → List Int → List (Int × Tx) → List Lg
  | l, cur, [] => [⟨cur, l, r0⟩]
  | l, cur, x :: ps => if x.2 ∈ [([115, 112, 97, 99, 101] : Tx), ([102, 101, 101, 100] : Tx), ([109, 97, 114, 107] : Tx)] then gapsR r0 l (cur ++ [x.1]) ps else ⟨cur, l, some x.2⟩ :: gapsR r0 (some x.2) [] ps
theorem gapsF_R (l0 r0 : Option Tx) (ks : List Tx) : gapsF l0 r0 ks = gapsR r0 l0 [] (enumL (ks, ())) := by
  have : ∀ (ps : List (Int × Tx)) (d : GsT), (ps.foldl stepF d).1 ++ [⟨(ps.foldl stepF d).2.1, (ps.foldl stepF d).2.2, r0⟩] = d.1 ++ gapsR r0 d.2.2 d.2.1 ps := by
    intro ps
    induction ps with
    | nil => intro d; rfl
    | cons x ps ih =>
      intro d
      rw [List.foldl_cons, ih]
      unfold stepF
      by_cases hx : x.2 ∈ [([115, 112, 97, 99, 101] : Tx), ([102, 101, 101, 100] : Tx), ([109, 97, 114, 107] : Tx)]
      · rw [if_pos hx]
        show d.1 ++ gapsR r0 d.2.2 (d.2.1 ++ [x.1]) ps = d.1 ++ gapsR r0 d.2.2 d.2.1 (x :: ps)
        rw [gapsR, if_pos hx]
      · rw [if_neg hx]
        show (d.1 ++ [⟨d.2.1, d.2.2, some x.2⟩]) ++ gapsR r0 (some x.2) [] ps = d.1 ++ gapsR r0 d.2.2 d.2.1 (x :: ps)
        rw [gapsR, if_neg hx, List.append_assoc]
        rfl
  exact this _ _
abbrev PU := Int × (Tx × Tx)
def abP (x : PU) : U := absU x.2
def kp (x : PU) : Int × Tx := (x.1, kindU x.2)
theorem gapsR_ns (r0 : Option Tx) : ∀ (ps : List (Int × Tx)) (l : Option Tx) (cur : List Int), ∀ g ∈ gapsR r0 l cur ps, ∀ k ∈ g.ns, k ∈ cur ∨ k ∈ ps.map (·.1)
  | [], l, cur, g, hg, k, hk => by
    have : g = ⟨cur, l, r0⟩ := List.mem_singleton.mp hg
    rw [this] at hk
    exact .inl hk
  | x :: ps, l, cur, g, hg, k, hk => by
    unfold gapsR at hg
    split at hg
    · rcases gapsR_ns r0 ps l (cur ++ [x.1]) g hg k hk with z | z
      · rcases List.mem_append.mp z with z | z
        · exact .inl z
        · exact .inr (by rw [List.mem_singleton.mp z]; exact List.mem_cons_self)
      · exact .inr (List.mem_cons_of_mem _ z)
    · rcases List.mem_cons.mp hg with e | hg
      · rw [e] at hk; exact .inl hk
      · rcases gapsR_ns r0 ps _ [] g hg k hk with z | z
        · cases z
        · exact .inr (List.mem_cons_of_mem _ z)
theorem whiteF_mem {ks : List Tx} {g : Lg} {k : Int} (h : whiteF ks g = some k) : k ∈ g.ns := by
  unfold whiteF at h
  split at h
  · cases h
  · split at h
    · rename_i e
      split at h
      · cases h
      · cases h; exact List.mem_of_find?_eq_some e
    · exact List.mem_of_find?_eq_some h
/-- kinds as they stand -/
def KOk (ks : List Tx) (ps : List PU) : Prop := ∀ x ∈ ps, atI ks x.1 = some (kindU x.2) ∧ ∃ c, x.2.2 = [c]
def whP (x : PU) : Bool := decide (kindU x.2 ∈ [([115, 112, 97, 99, 101] : Tx), ([102, 101, 101, 100] : Tx)])
theorem one_mk {ks : List Tx} {cur : List PU} (h : KOk ks cur) (hn : ∀ x ∈ cur, (abP x).isSo = false) : cur.filter (fun x => !whP x) = mksG abP cur := by
  unfold mksG
  refine List.filter_congr fun x hx => ?_
  have := abs_white (h x hx).2
  have h2 := hn x hx
  unfold whP
  unfold abP at h2 ⊢
  rw [this, h2]
  cases (absU x.2).isMk <;> rfl
theorem one_at {ks : List Tx} {cur : List PU} (h : KOk ks cur) (hn : ∀ x ∈ cur, (abP x).isSo = false) {k : Int} (hk : k ∉ cur.map (·.1)) : cur.filter (fun x => !whP x || decide (some x.1 = some k)) = mksG abP cur := by
  rw [← one_mk h hn]
  refine List.filter_congr fun x hx => ?_
  have : ¬ some x.1 = some k := fun z => hk (by cases z; exact List.mem_map_of_mem hx)
  rw [decide_eq_false this, Bool.or_false]
theorem isK_eq {ks : List Tx} {x : PU} {w : Tx} (h : atI ks x.1 = some (kindU x.2)) : isK ks w x.1 = decide (kindU x.2 = w) := by
  unfold isK
  rw [h]
  simp
theorem one_fd {ks : List Tx} : ∀ {cur : List PU}, KOk ks cur → (∀ x ∈ cur, (abP x).isSo = false) → (cur.map (·.1)).Nodup → ((cur.map (·.1)).find? (isK ks ([102, 101, 101, 100] : Tx)) = none ∧ hasFd abP cur = false) ∨ ∃ k, (cur.map (·.1)).find? (isK ks ([102, 101, 101, 100] : Tx)) = some k ∧ hasFd abP cur = true ∧ cur.filter (fun x => !whP x || decide (some x.1 = some k)) = ffdG abP cur
  | [], _, _, _ => .inl ⟨rfl, rfl⟩
  | x :: cur, h, hn, hd => by
    have hx := h x List.mem_cons_self
    have hc : KOk ks cur := fun y hy => h y (List.mem_cons_of_mem _ hy)
    have hnc : ∀ y ∈ cur, (abP y).isSo = false := fun y hy => hn y (List.mem_cons_of_mem _ hy)
    rw [List.map_cons, List.nodup_cons] at hd
    have ei := isK_eq (w := ([102, 101, 101, 100] : Tx)) hx.1
    have ef := abs_fd hx.2
    by_cases hf : kindU x.2 = ([102, 101, 101, 100] : Tx)
    · refine .inr ⟨x.1, ?_, ?_, ?_⟩
      · rw [List.map_cons, List.find?_cons, ei, decide_eq_true hf]
      · unfold hasFd; rw [List.any_cons, decide_eq_true (show abP x = .fd from ef.mpr hf)]; rfl
      · rw [List.filter_cons_of_pos (by simp), one_at hc hnc hd.1]
        unfold ffdG
        rw [if_pos (show abP x = .fd from ef.mpr hf)]
    · have nf : ¬ abP x = .fd := fun z => hf (ef.mp z)
      have e1 : ((x :: cur).map (·.1)).find? (isK ks ([102, 101, 101, 100] : Tx)) = (cur.map (·.1)).find? (isK ks ([102, 101, 101, 100] : Tx)) := by rw [List.map_cons, List.find?_cons, ei, decide_eq_false hf]
      have e2 : hasFd abP (x :: cur) = hasFd abP cur := by unfold hasFd; rw [List.any_cons, decide_eq_false nf]; rfl
      rcases one_fd hc hnc hd.2 with ⟨a, b⟩ | ⟨k, a, b, c⟩
      · exact .inl ⟨e1.trans a, e2.trans b⟩
      · refine .inr ⟨k, e1.trans a, e2.trans b, ?_⟩
        have hk : x.1 ≠ k := fun z => hd.1 (z ▸ List.mem_of_find?_eq_some a)
        have ex : (!whP x || decide (some x.1 = some k)) = (abP x).isMk := by
          have := abs_white hx.2
          have h2 := hn x List.mem_cons_self
          unfold whP
          unfold abP at h2 ⊢
          rw [this, h2, decide_eq_false (by simpa using hk)]
          cases (absU x.2).isMk <;> rfl
        unfold ffdG
        rw [if_neg nf, List.filter_cons, ex, c]
theorem one_sp {ks : List Tx} : ∀ {cur : List PU}, KOk ks cur → (∀ x ∈ cur, (abP x).isSo = false) → (cur.map (·.1)).Nodup → cur.filter (fun x => !whP x || decide (some x.1 = (cur.map (·.1)).find? (isK ks ([115, 112, 97, 99, 101] : Tx)))) = fspG abP cur
  | [], _, _, _ => rfl
  | x :: cur, h, hn, hd => by
    have hx := h x List.mem_cons_self
    have hc : KOk ks cur := fun y hy => h y (List.mem_cons_of_mem _ hy)
    have hnc : ∀ y ∈ cur, (abP y).isSo = false := fun y hy => hn y (List.mem_cons_of_mem _ hy)
    rw [List.map_cons, List.nodup_cons] at hd
    have ei := isK_eq (w := ([115, 112, 97, 99, 101] : Tx)) hx.1
    have ef := abs_sp hx.2
    have ih := one_sp hc hnc hd.2
    by_cases hf : kindU x.2 = ([115, 112, 97, 99, 101] : Tx)
    · have e1 : ((x :: cur).map (·.1)).find? (isK ks ([115, 112, 97, 99, 101] : Tx)) = some x.1 := by rw [List.map_cons, List.find?_cons, ei, decide_eq_true hf]
      rw [e1, List.filter_cons_of_pos (by simp), one_at hc hnc hd.1]
      unfold fspG
      rw [if_pos (show abP x = .sp from ef.mpr hf)]
    · have nf : ¬ abP x = .sp := fun z => hf (ef.mp z)
      have e1 : ((x :: cur).map (·.1)).find? (isK ks ([115, 112, 97, 99, 101] : Tx)) = (cur.map (·.1)).find? (isK ks ([115, 112, 97, 99, 101] : Tx)) := by rw [List.map_cons, List.find?_cons, ei, decide_eq_false hf]
      rw [e1]
      have ex : (!whP x || decide (some x.1 = (cur.map (·.1)).find? (isK ks ([115, 112, 97, 99, 101] : Tx)))) = (abP x).isMk := by
        have := abs_white hx.2
        have h2 := hn x List.mem_cons_self
        have hk : ¬ some x.1 = (cur.map (·.1)).find? (isK ks ([115, 112, 97, 99, 101] : Tx)) := fun z => hd.1 (List.mem_of_find?_eq_some z.symm)
        unfold whP
        unfold abP at h2 ⊢
        rw [this, h2, decide_eq_false hk]
        cases (absU x.2).isMk <;> rfl
      unfold fspG
      rw [if_neg nf, List.filter_cons, ex, ih]
theorem joinF_eq (l r : Option Nat) : joinF (l.map kdO) (r.map kdO) = jn l r := by
  cases l with
  | none => cases r <;> rfl
  | some a =>
    cases r with
    | none => rfl
    | some b =>
      unfold joinF jn
      simp only [Option.map_some, Option.isSome_some, Bool.true_and, Option.some.injEq, kdO_zero, kdO_wide]
      rw [Bool.eq_iff_iff]
      simp
theorem one_gap {ks : List Tx} {cur : List PU} (h : KOk ks cur) (hn : ∀ x ∈ cur, (abP x).isSo = false) (hd : (cur.map (·.1)).Nodup) (l r : Option Nat) : cur.filter (fun x => !whP x || decide (some x.1 = whiteF ks ⟨cur.map (·.1), l.map kdO, r.map kdO⟩)) = gpG abP l r cur := by
  have en : ∀ o : Option Nat, o.map kdO = some ([101, 110, 100] : Tx) ↔ o = some 10 := fun o => by
    cases o with
    | none => simp
    | some c => rw [Option.map_some, Option.some.injEq, kdO_end, Option.some.injEq]
  have none_ : cur.filter (fun x => !whP x || decide (some x.1 = none)) = mksG abP cur := by
    rw [← one_mk h hn]
    exact List.filter_congr fun x hx => by simp
  let Fw : Option Int → List PU := fun w => cur.filter (fun x => !whP x || decide (some x.1 = w))
  show Fw (whiteF ks ⟨cur.map (·.1), l.map kdO, r.map kdO⟩) = _
  unfold gpG
  by_cases h0 : l = some 10 ∨ r = some 10
  · have e : whiteF ks ⟨cur.map (·.1), l.map kdO, r.map kdO⟩ = none := by unfold whiteF; rw [if_pos (by rw [en, en]; exact h0)]
    rw [if_pos h0, e]; exact none_
  · rw [if_neg h0]
    rcases one_fd h hn hd with ⟨a, b⟩ | ⟨k, a, b, c⟩
    · have e : whiteF ks ⟨cur.map (·.1), l.map kdO, r.map kdO⟩ = (cur.map (·.1)).find? (isK ks ([115, 112, 97, 99, 101] : Tx)) := by unfold whiteF; rw [if_neg (by rw [en, en]; exact h0)]; simp only [a]
      rw [b, if_neg (by decide), e]
      exact one_sp h hn hd
    · have e : whiteF ks ⟨cur.map (·.1), l.map kdO, r.map kdO⟩ = if jn l r = true then none else some k := by unfold whiteF; rw [if_neg (by rw [en, en]; exact h0)]; simp only [a, joinF_eq]
      rw [b, if_pos rfl, e]
      cases jn l r
      · rw [if_neg (by decide), if_neg (by decide)]; exact c
      · rw [if_pos rfl, if_pos rfl]; exact none_
/-- what stays is what is needed -/
theorem stays_need {ks : List Tx} (r0 : Option Nat) : ∀ (ps cur : List PU) (l : Option Nat), KOk ks (cur ++ ps) → (∀ x ∈ cur, (abP x).isSo = false) → ((cur ++ ps).map (·.1)).Nodup →
    (cur ++ ps).filter (fun x => !whP x || decide (some x.1 ∈ (gapsR (r0.map kdO) (l.map kdO) (cur.map (·.1)) (ps.map kp)).map (whiteF ks))) = needG abP r0 l cur ps
  | [], cur, l, h, hn, hd => by
    rw [List.append_nil] at h hd ⊢
    show cur.filter (fun x => !whP x || decide (some x.1 ∈ [whiteF ks ⟨cur.map (·.1), l.map kdO, r0.map kdO⟩])) = gpG abP l r0 cur
    rw [← one_gap h hn hd]
    exact List.filter_congr fun x _ => by congr 1; rw [decide_eq_decide, List.mem_singleton]
  | x :: ps, cur, l, h, hn, hd => by
    have hx := h x (by simp)
    have es := abs_solid hx.2
    rcases abs_cases hx.2 with z | z | z | z
    case inr.inr.inr =>
      obtain ⟨c, ea, ek, _⟩ := z
      have eN : needG abP r0 l cur (x :: ps) = gpG abP l (some c) cur ++ x :: needG abP r0 (some c) [] ps := by
        rw [needG, show abP x = .so c from ea]
      have eg : gapsR (r0.map kdO) (l.map kdO) (cur.map (·.1)) ((x :: ps).map kp) = ⟨cur.map (·.1), l.map kdO, (some c).map kdO⟩ :: gapsR (r0.map kdO) ((some c).map kdO) ([].map (fun y : PU => y.1)) (ps.map kp) := by
        rw [List.map_cons, gapsR, if_neg (by rw [show (kp x).2 = kdO c from ek]; exact kdO_solid c), show (kp x).2 = kdO c from ek]
        rfl
      rw [eN, eg, List.map_cons]
      have hdc := hd
      rw [List.map_append, List.map_cons] at hd
      obtain ⟨d1, d2, d3⟩ := List.nodup_append.mp hd
      rw [List.nodup_cons] at d2
      have hc : KOk ks cur := fun y hy => h y (List.mem_append_left _ hy)
      have hp : KOk ks ([] ++ ps) := fun y hy => h y (List.mem_append_right _ (List.mem_cons_of_mem _ hy))
      have ih := stays_need r0 ps [] (some c) hp (fun _ h => nomatch h) d2.2
      rw [List.filter_append]
      congr 1
      · rw [← one_gap hc hn d1 l (some c)]
        refine List.filter_congr fun y hy => ?_
        congr 1
        rw [decide_eq_decide, List.mem_cons]
        refine ⟨fun z => z.elim id fun z => ?_, .inl⟩
        obtain ⟨g, hg, e⟩ := List.mem_map.mp z
        have := gapsR_ns _ _ _ _ g hg _ (whiteF_mem e)
        rcases this with q | q
        · cases q
        · rw [List.map_map] at q
          exact absurd rfl (d3 y.1 (List.mem_map_of_mem hy) y.1 (List.mem_cons_of_mem _ q))
      · have hw : whP x = false := by
          unfold whP
          rw [abs_white hx.2, ea]
          rfl
        rw [List.filter_cons_of_pos (by rw [hw]; rfl)]
        congr 1
        rw [← ih, List.nil_append]
        refine List.filter_congr fun y hy => ?_
        congr 1
        rw [decide_eq_decide, List.mem_cons]
        refine ⟨fun z => z.elim (fun z => ?_) id, .inr⟩
        have := whiteF_mem z.symm
        exact absurd rfl (d3 y.1 this y.1 (List.mem_cons_of_mem _ (List.mem_map_of_mem hy)))
    all_goals
      have hs : (abP x).isSo = false := by
        unfold abP
        rcases abs_cases hx.2 with w | w | w | w
        · rw [w.1]; rfl
        · rw [w.1]; rfl
        · obtain ⟨c, e, _⟩ := w; rw [e]; rfl
        · obtain ⟨c, e, _⟩ := w
          first
            | (rw [z.1] at e; cases e)
            | (obtain ⟨d, e2, _⟩ := z; rw [e2] at e; cases e)
      have hk : (kp x).2 ∈ [([115, 112, 97, 99, 101] : Tx), ([102, 101, 101, 100] : Tx), ([109, 97, 114, 107] : Tx)] := by
        show kindU x.2 ∈ _
        have hs : (absU x.2).isSo = false := hs
        rw [hs] at es
        have := Bool.not_eq_eq_eq_not.mp es.symm
        simpa using this
      have eN : needG abP r0 l cur (x :: ps) = needG abP r0 l (cur ++ [x]) ps := by
        rw [needG]
        cases e : abP x with
        | so c => rw [e] at hs; cases hs
        | sp => rfl
        | fd => rfl
        | mk c => rfl
      have eg : gapsR (r0.map kdO) (l.map kdO) (cur.map (·.1)) ((x :: ps).map kp) = gapsR (r0.map kdO) (l.map kdO) ((cur ++ [x]).map (·.1)) (ps.map kp) := by
        rw [List.map_cons, gapsR, if_pos hk, List.map_append]
        rfl
      have ea : cur ++ x :: ps = (cur ++ [x]) ++ ps := by simp
      rw [eN, eg, ea]
      rw [ea] at h hd
      exact stays_need r0 ps (cur ++ [x]) l h (fun y hy => by
        rcases List.mem_append.mp hy with q | q
        · exact hn y q
        · rw [List.mem_singleton.mp q]; exact hs) hd
/-! ### sources, needed units and forms by the plain law -/
theorem enum_map {α β : Type} (f : α → β) (us : List α) : enumL (us.map f, ()) = (enumL (us, ())).map fun x => (x.1, f x.2) := by
  unfold enumL
  rw [List.length_map, List.zip_map_right]
  rfl
theorem enum_sndP {α : Type} (us : List α) : (enumL (us, ())).map (·.2) = us := by
  unfold enumL
  rw [List.map_snd_zip (by simp)]
theorem rangeI_nodup (n : Nat) : (rangeI 0 (n : Int)).Nodup := by
  unfold rangeI
  unfold List.Nodup
  rw [List.pairwise_map]
  exact List.Pairwise.imp (fun h z => h (by omega)) (List.nodup_range (n := ((n : Int) - 0).toNat))
def PUs (us : List (Tx × Tx)) : List PU := enumL (us, ())
theorem PUs_ok {us : List (Tx × Tx)} (h : OneU us) : KOk (us.map kindU) (PUs us) := fun x hx => by
  have e : enumL (us.map kindU, ()) = (PUs us).map kp := enum_map kindU us
  have hm : kp x ∈ enumL (us.map kindU, ()) := by rw [e]; exact List.mem_map_of_mem hx
  have h2 : x.2 ∈ us := by rw [← enum_sndP us]; exact List.mem_map_of_mem hx
  exact ⟨enum_at hm, h _ h2⟩
theorem PUs_nodup (us : List (Tx × Tx)) : ((PUs us).map (·.1)).Nodup := by
  rw [show (PUs us).map (·.1) = rangeI 0 (us.length : Int) from enum_fst us]
  exact rangeI_nodup _
theorem src_need (l : Option Nat) {us : List (Tx × Tx)} (h : OneU us) : sourcesF (l.map kdO) (us.map kindU) = (needG abP l l [] (PUs us)).map (·.1) := by
  unfold sourcesF
  have e : enumL (us.map kindU, ()) = (PUs us).map kp := enum_map kindU us
  rw [e, List.filter_map, List.map_map]
  have := stays_need (ks := us.map kindU) l (PUs us) [] l (by rw [List.nil_append]; exact PUs_ok h) (fun _ h => nomatch h) (by rw [List.nil_append]; exact PUs_nodup us)
  rw [List.nil_append] at this
  rw [← this]
  congr 1
  refine List.filter_congr fun x _ => ?_
  show stays _ _ (kp x) = _
  unfold stays whitesF
  rw [gapsF_R, e]
  rfl
theorem atU_PU {us : List (Tx × Tx)} {x : PU} (h : x ∈ PUs us) : atU us x.1 = x.2 := by
  unfold atU
  rw [enum_at h]
  rfl
theorem mem_needG {α : Type} {ab : α → U} {r0 : Option Nat} : ∀ {as cur : List α} {l : Option Nat} {a : α}, a ∈ needG ab r0 l cur as → a ∈ cur ∨ a ∈ as := by
  have h1 : ∀ g : List α, ∀ a ∈ mksG ab g, a ∈ g := fun g a h => (List.mem_filter.mp h).1
  have h2 : ∀ g : List α, ∀ a ∈ ffdG ab g, a ∈ g := fun g => by
    induction g with
    | nil => exact fun _ h => h
    | cons u g ih =>
      intro a h
      unfold ffdG at h
      split at h
      · rcases List.mem_cons.mp h with z | z
        · exact z ▸ List.mem_cons_self
        · exact List.mem_cons_of_mem _ (h1 g a z)
      · split at h
        · rcases List.mem_cons.mp h with z | z
          · exact z ▸ List.mem_cons_self
          · exact List.mem_cons_of_mem _ (ih a z)
        · exact List.mem_cons_of_mem _ (ih a h)
  have h3 : ∀ g : List α, ∀ a ∈ fspG ab g, a ∈ g := fun g => by
    induction g with
    | nil => exact fun _ h => h
    | cons u g ih =>
      intro a h
      unfold fspG at h
      split at h
      · rcases List.mem_cons.mp h with z | z
        · exact z ▸ List.mem_cons_self
        · exact List.mem_cons_of_mem _ (h1 g a z)
      · split at h
        · rcases List.mem_cons.mp h with z | z
          · exact z ▸ List.mem_cons_self
          · exact List.mem_cons_of_mem _ (ih a z)
        · exact List.mem_cons_of_mem _ (ih a h)
  have hg : ∀ (l r : Option Nat) (g : List α), ∀ a ∈ gpG ab l r g, a ∈ g := fun l r g a h => by
    unfold gpG at h
    split at h
    · exact h1 g a h
    · split at h
      · split at h
        · exact h1 g a h
        · exact h2 g a h
      · exact h3 g a h
  intro as
  induction as with
  | nil => exact fun h => .inl (hg _ _ _ _ h)
  | cons x as ih =>
    intro cur l a h
    unfold needG at h
    split at h
    · rcases List.mem_append.mp h with z | z
      · exact .inl (hg _ _ _ _ z)
      · rcases List.mem_cons.mp z with z | z
        · exact .inr (z ▸ List.mem_cons_self)
        · exact .inr ((ih z).elim (fun z => nomatch z) (List.mem_cons_of_mem _))
    · rcases ih h with z | z
      · rcases List.mem_append.mp z with z | z
        · exact .inl z
        · exact .inr (List.mem_singleton.mp z ▸ List.mem_cons_self)
      · exact .inr (List.mem_cons_of_mem _ z)
theorem needF_G {us : List (Tx × Tx)} (h : OneU us) : needF us = needG absU none none [] us := by
  unfold needF
  rw [show sourcesF none (us.map kindU) = _ from src_need none h, List.map_map]
  have e : needG absU none none [] us = (needG abP none none [] (PUs us)).map (·.2) := by
    have := needG_map (f := fun x : PU => x.2) (ab := absU) none none [] (PUs us)
    rw [show (PUs us).map (fun x : PU => x.2) = us from enum_sndP us] at this
    exact this
  rw [e]
  refine List.map_congr_left fun x hx => ?_
  exact atU_PU ((mem_needG hx).elim (fun z => nomatch z) id)
theorem needF_abs {us : List (Tx × Tx)} (h : OneU us) : (needF us).map absU = need none none [] (us.map absU) := by
  rw [needF_G h]
  exact (needG_map (f := absU) (ab := fun u => u) none none [] us).symm
namespace U
def sh : U → Nat | .sp => 32 | .fd => 32 | .mk c => c | .so c => c
end U
theorem signF_sh {u : Tx × Tx} (h : ∃ c, u.2 = [c]) : signF u = [(absU u).sh] := by
  rcases abs_cases h with ⟨e, k, s⟩ | ⟨e, k, s⟩ | ⟨c, e, k, s, _⟩ | ⟨c, e, k, s, _⟩
  · rw [e]; unfold signF; rw [k, if_neg (by decide), if_pos (by decide)]; rfl
  · rw [e]; unfold signF; rw [k, if_neg (by decide), if_pos (by decide)]; rfl
  · rw [e]; unfold signF; rw [k, if_neg (by decide), if_neg (by decide), s]; rfl
  · rw [e, s]; rfl
theorem flat_sh {us : List (Tx × Tx)} (h : OneU us) : (us.map signF).flatten = (us.map absU).map U.sh := by
  induction us with
  | nil => rfl
  | cons u us ih =>
    rw [List.map_cons, List.flatten_cons, signF_sh (h u List.mem_cons_self), ih fun v hv => h v (List.mem_cons_of_mem _ hv)]
    rfl
theorem sgnT_abs {us : List (Tx × Tx)} (h : OneU us) (hn : Ns (us.map absU)) : sgnT us = (us.map absU).map U.sgn := by
  induction us with
  | nil => rfl
  | cons u us ih =>
    unfold sgnT at ih ⊢
    rw [List.map_cons, List.flatten_cons, abs_sgn (h u List.mem_cons_self) (hn _ (by simp)), ih (fun v hv => h v (List.mem_cons_of_mem _ hv)) fun v hv => hn v (List.mem_cons_of_mem _ hv)]
    rfl
/-- the shown text -/
def shU (us : List U) : List Nat := (need (some 10) (some 10) [] us).map U.sh
theorem textF_sh {us : List (Tx × Tx)} (h : OneU us) : textF us (sourcesF (some ([101, 110, 100] : Tx)) (us.map kindU)) = shU (us.map absU) := by
  unfold textF
  rw [show sourcesF (some ([101, 110, 100] : Tx)) (us.map kindU) = _ from src_need (some 10) h, List.map_map]
  have e : need (some 10) (some 10) [] (us.map absU) = (needG abP (some 10) (some 10) [] (PUs us)).map abP := by
    have := needG_map (f := abP) (ab := fun u => u) (some 10) (some 10) [] (PUs us)
    rw [show (PUs us).map abP = us.map absU by unfold abP; rw [show (fun x : PU => absU x.2) = absU ∘ (fun x : PU => x.2) from rfl, ← List.map_map, show (PUs us).map (fun x : PU => x.2) = us from enum_sndP us]] at this
    exact this
  unfold shU
  rw [e, List.map_map]
  have : ∀ ps : List PU, (∀ x ∈ ps, x ∈ PUs us) → (ps.map ((fun k => signF (atU us k)) ∘ fun x => x.1)).flatten = ps.map (U.sh ∘ abP) := by
    intro ps
    induction ps with
    | nil => intro _; rfl
    | cons x ps ih =>
      intro hp
      have hx := hp x List.mem_cons_self
      rw [List.map_cons, List.flatten_cons, ih fun y hy => hp y (List.mem_cons_of_mem _ hy)]
      show signF (atU us x.1) ++ _ = _
      rw [atU_PU hx, signF_sh (PUs_ok h x hx).2]
      rfl
  exact this _ fun x hx => (mem_needG hx).elim (fun z => nomatch z) id
/-! the form of needed units -/
theorem solF_app (a b : List Tx) : solF (a ++ b) = solF a ++ (solF b).map (· + (a.length : Int)) := by
  have e : enumL (a ++ b, ()) = enumL (a, ()) ++ (enumL (b, ())).map fun x => (x.1 + (a.length : Int), x.2) := by
    unfold enumL
    show ((List.range (a ++ b).length).map _).zip (a ++ b) = ((List.range a.length).map _).zip a ++ (((List.range b.length).map _).zip b).map _
    rw [List.length_append, List.range_add, List.map_append, List.zip_append (by simp), List.map_map]
    congr 1
    have : ∀ (xs : List Nat) (ys : List Tx), (xs.map ((fun k : Nat => (k : Int)) ∘ fun x => a.length + x)).zip ys = ((xs.map fun k : Nat => (k : Int)).zip ys).map fun x => (x.1 + (a.length : Int), x.2) := by
      intro xs
      induction xs with
      | nil => intro ys; rfl
      | cons x xs ih =>
        intro ys
        cases ys with
        | nil => rfl
        | cons y ys =>
          simp only [List.map_cons, List.zip_cons_cons, Function.comp]
          rw [← ih ys]
          have : ((a.length + x : Nat) : Int) = (x : Int) + (a.length : Int) := by omega
          rw [this]
    exact this _ _
  unfold solF
  rw [e, List.filter_append, List.map_append, List.filter_map, List.map_map, List.map_map]
  rfl
theorem solF_nil {a : List Tx} (h : ∀ k ∈ a, k ∈ [([115, 112, 97, 99, 101] : Tx), ([102, 101, 101, 100] : Tx), ([109, 97, 114, 107] : Tx)]) : solF a = [] := by
  unfold solF
  rw [List.filter_eq_nil_iff.mpr]
  · rfl
  · intro x hx
    have : x.2 ∈ a := by rw [← enum_sndP a]; exact List.mem_map_of_mem hx
    rw [decide_eq_true (h _ this)]
    decide
theorem solF_one {k : Tx} (h : k ∉ [([115, 112, 97, 99, 101] : Tx), ([102, 101, 101, 100] : Tx), ([109, 97, 114, 107] : Tx)]) : solF [k] = [0] := by
  unfold solF
  have e : enumL ([k], ()) = [(0, k)] := rfl
  rw [e, List.filter_cons_of_pos (by simp only [decide_eq_false h, Bool.not_false])]
  rfl
theorem ns_kinds {us : List (Tx × Tx)} (h : OneU us) (hn : Ns (us.map absU)) : ∀ k ∈ us.map kindU, k ∈ [([115, 112, 97, 99, 101] : Tx), ([102, 101, 101, 100] : Tx), ([109, 97, 114, 107] : Tx)] := fun k hk => by
  obtain ⟨u, hu, rfl⟩ := List.mem_map.mp hk
  have := abs_solid (h u hu)
  rw [hn _ (List.mem_map_of_mem hu)] at this
  exact of_decide_eq_true (Bool.not_eq_eq_eq_not.mp this.symm)
theorem so_kind {u : Tx × Tx} (h : ∃ c, u.2 = [c]) {c : Nat} (e : absU u = .so c) : kindU u = kdO c := by
  rcases abs_cases h with ⟨e', _⟩ | ⟨e', _⟩ | ⟨d, e', _⟩ | ⟨d, e', k, _⟩
  · rw [e] at e'; cases e'
  · rw [e] at e'; cases e'
  · rw [e] at e'; cases e'
  · rw [e] at e'; cases e'; exact k
theorem OneU.left {a b : List (Tx × Tx)} (h : OneU (a ++ b)) : OneU a := fun u hu => h u (List.mem_append_left _ hu)
theorem OneU.right {a b : List (Tx × Tx)} (h : OneU (a ++ b)) : OneU b := fun u hu => h u (List.mem_append_right _ hu)
theorem OneU.app {a b : List (Tx × Tx)} (h : OneU a) (h2 : OneU b) : OneU (a ++ b) := fun u hu => (List.mem_append.mp hu).elim (h u) (h2 u)
theorem sgn_fd {g : List U} (hn : Ns g) (hw : ∀ u ∈ g, Wf u) : 10 ∈ g.map U.sgn ↔ fdIn g = true := by
  induction g with
  | nil => exact ⟨fun h => (nomatch h), fun h => (nomatch h)⟩
  | cons u g ih =>
    have ih := ih (fun v hv => hn v (List.mem_cons_of_mem _ hv)) fun v hv => hw v (List.mem_cons_of_mem _ hv)
    have hu := hn u List.mem_cons_self
    have wu := hw u List.mem_cons_self
    rw [List.map_cons, List.mem_cons, ih]
    cases u with
    | so c => cases hu
    | fd => exact ⟨fun _ => rfl, fun _ => .inl rfl⟩
    | sp => rw [fdIn_sp]; exact ⟨fun z => z.elim (fun z => absurd z (by decide)) id, .inr⟩
    | mk c =>
      rw [fdIn_mk]
      exact ⟨fun z => z.elim (fun z => by
        have z : 10 = c := z
        have wu : c = 60 ∨ c = 62 := wu
        omega) id, .inr⟩
theorem filt_mk {g : List U} (hw : ∀ u ∈ g, Wf u) : ((mks g).map U.sgn).filter (· != 10) = (mks g).map U.sgn := by
  rw [List.filter_eq_self]
  intro c hc
  obtain ⟨u, hu, rfl⟩ := List.mem_map.mp hc
  obtain ⟨h1, h2⟩ := List.mem_filter.mp hu
  cases u with
  | mk c =>
    have : c = 60 ∨ c = 62 := hw _ h1
    show (c != 10) = true
    rcases this with rfl | rfl <;> rfl
  | sp => cases h2
  | fd => cases h2
  | so c => cases h2
theorem filt_fd {g : List U} (hn : Ns g) (hw : ∀ u ∈ g, Wf u) (h : ffd g = g) : (g.map U.sgn).filter (· != 10) = (mks g).map U.sgn := by
  induction g with
  | nil => rfl
  | cons u g ih =>
    have hwg : ∀ v ∈ g, Wf v := fun v hv => hw v (List.mem_cons_of_mem _ hv)
    have hng : Ns g := fun v hv => hn v (List.mem_cons_of_mem _ hv)
    cases u with
    | so c => cases hn _ List.mem_cons_self
    | sp =>
      exfalso
      have h1 : ∀ g : List U, .sp ∉ ffd g := fun g hg => by
        have : spIn (ffd g) = true := List.any_eq_true.mpr ⟨_, hg, rfl⟩
        simp at this
      exact h1 (.sp :: g) (by rw [h]; exact List.mem_cons_self)
    | fd =>
      rw [ffd_fd, List.cons.injEq] at h
      have := filt_mk hwg
      rw [h.2] at this
      show (g.map U.sgn).filter (· != 10) = (mks (.fd :: g)).map U.sgn
      rw [this, mks_fd, h.2]
    | mk c =>
      rw [ffd_mk, List.cons.injEq] at h
      have hc : c = 60 ∨ c = 62 := hw _ List.mem_cons_self
      have : (c != 10) = true := by rcases hc with rfl | rfl <;> rfl
      show (c :: g.map U.sgn).filter (· != 10) = _
      rw [List.filter_cons_of_pos (by exact this), ih hng hwg h.2, mks_mk]
      rfl
theorem fl_sgn {g : List U} (c : Nat) (hn : Ns g) (hw : ∀ u ∈ g, Wf u) (ht : fdIn g = true → ffd g = g) : (if kdO c = ([122, 101, 114, 111] : Tx) then feedLast (g.map U.sgn) else g.map U.sgn) = (fl c g).map U.sgn := by
  simp only [kdO_zero]
  unfold fl feedLast
  by_cases h : c = 94
  · rw [if_pos h]
    cases hf : fdIn g
    · rw [if_neg (by rw [sgn_fd hn hw, hf]; decide), if_neg (fun z => nomatch z.2)]
    · rw [if_pos ((sgn_fd hn hw).mpr hf), if_pos ⟨h, rfl⟩, filt_fd hn hw (ht hf), List.map_append]
      rfl
  · rw [if_neg h, if_neg (fun z => h z.1)]
theorem fe_sgn {g : List U} (c : Nat) (hn : Ns g) (hw : ∀ u ∈ g, Wf u) (ht : fdIn g = true → ffd g = g) : (if kdO c = ([122, 101, 114, 111] : Tx) then feedFirst (g.map U.sgn) else g.map U.sgn) = (fe c g).map U.sgn := by
  simp only [kdO_zero]
  unfold fe feedFirst
  by_cases h : c = 94
  · rw [if_pos h]
    cases hf : fdIn g
    · rw [if_neg (by rw [sgn_fd hn hw, hf]; decide), if_neg (fun z => nomatch z.2)]
    · rw [if_pos ((sgn_fd hn hw).mpr hf), if_pos ⟨h, rfl⟩, filt_fd hn hw (ht hf)]
      rfl
  · rw [if_neg h, if_neg (fun z => h z.1)]
/-! ### the form -/
def toT (f : F) : T3 Tx Tx Tx := ⟨f.s.map U.sgn, f.c.map U.sgn, f.e.map U.sgn⟩
theorem atU_app {A B : List (Tx × Tx)} {x : Tx × Tx} {i : Int} (h : i = (A.length : Int)) : atU (A ++ x :: B) i = x := by
  unfold atU
  rw [atI_of h]
  simp
/-- the form of units that are kept: in front, from solid to solid, behind -/
theorem core_split {A X Y B : List (Tx × Tx)} {x y : Tx × Tx} (h : OneU (A ++ x :: X ++ B)) (hA : Ns (A.map absU)) (hB : Ns (B.map absU)) (hx : (absU x).isSo = true) (hy : (absU y).isSo = true) (e : x :: X = Y ++ [y]) :
    coreF (A ++ x :: X ++ B) = ⟨if kindU x = ([122, 101, 114, 111] : Tx) then feedLast (sgnT A) else sgnT A, ((x :: X).map signF).flatten, if kindU y = ([122, 101, 114, 111] : Tx) then feedFirst (sgnT B) else sgnT B⟩ := by
  have oneA : OneU A := h.left.left
  have oneB : OneU B := h.right
  have onex : ∃ c, x.2 = [c] := h x (by simp)
  have oney : ∃ c, y.2 = [c] := h y (by rw [e]; simp)
  have kx : kindU x ∉ [([115, 112, 97, 99, 101] : Tx), ([102, 101, 101, 100] : Tx), ([109, 97, 114, 107] : Tx)] := by
    have := abs_solid onex
    rw [hx] at this
    exact of_decide_eq_false (Bool.not_eq_eq_eq_not.mp this.symm)
  have ky : kindU y ∉ [([115, 112, 97, 99, 101] : Tx), ([102, 101, 101, 100] : Tx), ([109, 97, 114, 107] : Tx)] := by
    have := abs_solid oney
    rw [hy] at this
    exact of_decide_eq_false (Bool.not_eq_eq_eq_not.mp this.symm)
  have sA : solF (A.map kindU) = [] := solF_nil (ns_kinds oneA hA)
  have sB : solF (B.map kindU) = [] := solF_nil (ns_kinds oneB hB)
  have first : ∃ r, solF ((A ++ x :: X ++ B).map kindU) = (A.length : Int) :: r := by
    have : (A ++ x :: X ++ B).map kindU = A.map kindU ++ ([kindU x] ++ (X ++ B).map kindU) := by simp
    rw [this, solF_app, sA, solF_app, solF_one kx]
    exact ⟨((solF ((X ++ B).map kindU)).map (· + ([kindU x].length : Int))).map (· + ((A.map kindU).length : Int)), by rw [List.nil_append, List.map_append, List.length_map]; simp⟩
  have last : ∃ r, solF ((A ++ x :: X ++ B).map kindU) = r ++ [((A ++ Y).length : Int)] := by
    have : (A ++ x :: X ++ B).map kindU = (A ++ Y).map kindU ++ ([kindU y] ++ B.map kindU) := by rw [e]; simp
    rw [this, solF_app, solF_app, solF_one ky, sB]
    exact ⟨solF ((A ++ Y).map kindU), by simp⟩
  have el : (A ++ x :: X ++ B) = (A ++ Y) ++ y :: B := by rw [e]; simp
  have en : ((A ++ Y).length : Int) + 1 = ((A ++ x :: X).length : Int) := by
    have := congrArg List.length e
    simp only [List.length_cons, List.length_append, List.length_nil] at this ⊢
    omega
  unfold coreF
  obtain ⟨r, hr⟩ := first
  obtain ⟨r2, hr2⟩ := last
  rw [hr]
  show endsF _ _ _ = _
  have eg : ((A.length : Int) :: r).getLast (List.cons_ne_nil _ r) = ((A ++ Y).length : Int) := by
    have := hr.symm.trans hr2
    have h3 : ((A.length : Int) :: r).getLast? = (r2 ++ [((A ++ Y).length : Int)]).getLast? := by rw [this]
    rw [List.getLast?_eq_some_getLast (List.cons_ne_nil _ r), List.getLast?_concat] at h3
    exact Option.some.inj h3
  rw [eg]
  unfold endsF
  have a1 : atU (A ++ x :: X ++ B) (A.length : Int) = x := by rw [List.append_assoc]; exact atU_app rfl
  have a2 : atU (A ++ x :: X ++ B) ((A ++ Y).length : Int) = y := by rw [el]; exact atU_app rfl
  have c1 : cut (A ++ x :: X ++ B) none (some (A.length : Int)) = A := by
    rw [cut_to (by omega), List.append_assoc]
    simp
  have c2 : cut (A ++ x :: X ++ B) (some (A.length : Int)) (some (((A ++ Y).length : Int) + 1)) = x :: X := by
    rw [en, cut_mid (by omega) (by omega)]
    have : (A ++ x :: X ++ B).take ((A ++ x :: X).length : Int).toNat = A ++ x :: X := by
      rw [Int.toNat_natCast, List.take_left]
    rw [this]
    simp
  have c3 : cut (A ++ x :: X ++ B) (some (((A ++ Y).length : Int) + 1)) none = B := by
    rw [en, cut_from (by omega), Int.toNat_natCast, List.drop_left]
  rw [a1, a2, c1, c2, c3]
theorem core_none {A : List (Tx × Tx)} (h : OneU A) (hA : Ns (A.map absU)) : coreF A = ⟨sgnT A, [], []⟩ := by
  unfold coreF
  rw [solF_nil (ns_kinds h hA)]
theorem gp_thin (l r : Option Nat) (g : List U) (h : fdIn (gp l r g) = true) : ffd (gp l r g) = gp l r g := by
  unfold gp gpG at h ⊢
  split at h
  · have h : fdIn (mks g) = true := h
    rw [fdIn_mks] at h
    cases h
  · rename_i z
    rw [if_neg z]
    split at h
    · rename_i z2
      split at h
      · have h : fdIn (mks g) = true := h
        rw [fdIn_mks] at h
        cases h
      · rename_i z3
        rw [if_pos z2, if_neg z3]
        exact ffd_ffd g
    · have h : fdIn (fsp g) = true := h
      rw [fdIn_fsp] at h
      cases h
/-- behind a solid unit: from it to the last solid one, and behind this -/
theorem need_split : ∀ (n : Nat) (c : Nat) (vs : List U), vs.length ≤ n → ∃ m b Y, need none (some c) [] vs = m ++ b ∧ Ns b ∧ .so c :: m = Y ++ [.so (lastC c vs)] ∧ m.map U.sh = (rest c [] vs).1.map U.sgn ∧ (rest c [] vs).2 = fe (lastC c vs) b ∧ (fdIn b = true → ffd b = b) := by
  have needNs : ∀ (g us cur : List U) (l : Option Nat), Ns g → need none l cur (g ++ us) = need none l (cur ++ g) us := by
    intro g us
    induction g with
    | nil => intro cur l _; simp
    | cons u g ih =>
      intro cur l h
      have hu := h u List.mem_cons_self
      have := ih (cur ++ [u]) l fun v hv => h v (List.mem_cons_of_mem _ hv)
      rw [List.append_assoc] at this
      cases u with
      | so d => cases hu
      | sp => exact this
      | fd => exact this
      | mk d => exact this
  have nsl : ∀ (c : Nat) (g : List U), Ns g → lastC c g = c := fun c g => by
    induction g with
    | nil => intro _; rfl
    | cons v g ih =>
      intro h
      have hv := h v List.mem_cons_self
      have := ih fun w hw => h w (List.mem_cons_of_mem _ hw)
      cases v with
      | so d => cases hv
      | sp => exact this
      | fd => exact this
      | mk d => exact this
  have gap : ∀ (c : Nat) (g : List U), Ns g → ∃ m b Y, need none (some c) [] g = m ++ b ∧ Ns b ∧ .so c :: m = Y ++ [.so (lastC c g)] ∧ m.map U.sh = (rest c [] g).1.map U.sgn ∧ (rest c [] g).2 = fe (lastC c g) b ∧ (fdIn b = true → ffd b = b) := fun c g h => by
    have e := needNs g [] [] (some c) h
    rw [List.append_nil] at e
    rw [e, rest_gap h, nsl c g h]
    exact ⟨[], gp (some c) none g, [], rfl, ns_gp h, rfl, rfl, rfl, gp_thin _ _ _⟩
  intro n
  induction n with
  | zero =>
    intro c us hl
    have : us = [] := List.length_eq_zero_iff.mp (Nat.le_zero.mp hl)
    subst this
    exact gap c [] .nil
  | succ n ih =>
    intro c us hl
    rcases segs us with ⟨g, h, e⟩ | ⟨g, d, vs, h, e⟩
    · rw [e]; exact gap c g h
    · rw [e] at hl
      obtain ⟨m, b, Y, h1, h2, h3, h4, h5, h6⟩ := ih d vs (by simp at hl; omega)
      rw [e]
      refine ⟨gp (some c) (some d) g ++ .so d :: m, b, .so c :: (gp (some c) (some d) g ++ Y), ?_, h2, ?_, ?_, ?_, h6⟩
      · have := needNs g (.so d :: vs) [] (some c) h
        rw [this]
        show gp (some c) (some d) g ++ .so d :: need none (some d) [] vs = _
        rw [h1]
        simp
      · rw [lastC_app, nsl c g h]
        show .so c :: (_ ++ .so d :: m) = _ ++ [.so (lastC d vs)]
        rw [h3]
        simp
      · rw [rest_so h, List.map_append, List.map_append, List.map_cons, List.map_cons, h4]
        congr 1
        unfold rd
        rw [List.map_map]
        refine List.map_congr_left fun u _ => ?_
        cases u <;> rfl
      · rw [rest_so h, lastC_app, nsl c g h]
        exact h5
theorem need_ns {g us : List U} {r0 l : Option Nat} (h : Ns g) : ∀ {cur : List U}, need r0 l cur (g ++ us) = need r0 l (cur ++ g) us := by
  induction g with
  | nil => intro cur; simp
  | cons u g ih =>
    intro cur
    have hu := h u List.mem_cons_self
    have := ih (fun v hv => h v (List.mem_cons_of_mem _ hv)) (cur := cur ++ [u])
    rw [List.append_assoc] at this
    cases u with
    | so d => cases hu
    | sp => exact this
    | fd => exact this
    | mk d => exact this
/-- the form, by the plain law -/
theorem formF_frm {us : List (Tx × Tx)} (h : OneU us) : formF us = toT (frm (us.map absU)) := by
  unfold formF
  have hk := needF_abs h
  have h1 := needF_one h
  have wf : ∀ u ∈ (needF us).map absU, Wf u := fun u hu => by
    obtain ⟨v, hv, rfl⟩ := List.mem_map.mp hu
    exact abs_wf (h1 v hv)
  generalize needF us = kept at hk h1 wf
  generalize us.map absU = ws at hk
  rcases segs ws with ⟨g, hg, e⟩ | ⟨g, c, vs, hg, e⟩
  · rw [e] at hk ⊢
    have e2 : need none none [] g = gp none none g := by
      have := need_ns (us := []) (r0 := none) (l := none) hg (cur := [])
      rw [List.append_nil] at this
      exact this
    rw [e2] at hk
    have hn : Ns (kept.map absU) := by rw [hk]; exact ns_gp hg
    rw [core_none h1 hn, frm_gap hg, sgnT_abs h1 hn, hk]
    rfl
  · rw [e] at hk ⊢
    obtain ⟨m, b, Y, q1, q2, q3, q4, q5, q6⟩ := need_split vs.length c vs (Nat.le_refl _)
    have e2 : need none none [] (g ++ .so c :: vs) = gp none (some c) g ++ .so c :: m ++ b := by
      have := need_ns (us := .so c :: vs) (r0 := none) (l := none) hg (cur := [])
      rw [this]
      show gp none (some c) g ++ .so c :: need none (some c) [] vs = _
      rw [q1]
      simp
    rw [e2] at hk
    obtain ⟨AX, B, eK, eAX, eB⟩ := List.map_eq_append_iff.mp hk
    obtain ⟨A, xX, eK2, eA, exX⟩ := List.map_eq_append_iff.mp eAX
    obtain ⟨x, X, ex, eax, eX⟩ := List.map_eq_cons_iff.mp exX
    subst eK2 ex eK
    have eY := exX
    rw [q3] at eY
    obtain ⟨Y', y', ey, eY', ey'⟩ := List.map_eq_append_iff.mp eY
    obtain ⟨y, yn, eyy, ey1, eyn⟩ := List.map_eq_cons_iff.mp ey'
    have : yn = [] := List.map_eq_nil_iff.mp eyn
    subst this eyy
    have hA : Ns (A.map absU) := by rw [eA]; exact ns_gp hg
    have hB : Ns (B.map absU) := by rw [eB]; exact q2
    rw [core_split h1 hA hB (by rw [eax]; rfl) (by rw [ey1]; rfl) ey, frm_so hg]
    have wA : ∀ u ∈ A.map absU, Wf u := fun u hu => wf u (by rw [List.map_append, List.map_append]; simp [hu])
    have wB : ∀ u ∈ B.map absU, Wf u := fun u hu => wf u (by rw [List.map_append]; exact List.mem_append_right _ hu)
    have k1 : kindU x = kdO c := so_kind (h1 x (by simp)) eax
    have k2 : kindU y = kdO (lastC c vs) := so_kind (h1 y (by rw [ey]; simp)) ey1
    unfold toT
    rw [k1, k2, sgnT_abs h1.left.left hA, sgnT_abs h1.right hB, flat_sh (OneU.right (a := A) h1.left), eA, eB, exX]
    rw [eA] at hA wA
    rw [eB] at hB wB
    rw [fl_sgn c hA wA (gp_thin _ _ _), fe_sgn (lastC c vs) hB wB q6, q5, List.map_cons, q4]
    rfl
/-! ### the units of a form -/
theorem abs_coll {u : U} (hw : Wf u) (hn : u.isSo = false) : absU (([99, 111, 108, 108, 97, 112, 115, 101] : Tx), [u.sgn]) = u := by
  cases u with
  | so c => cases hn
  | sp => decide
  | fd => decide
  | mk c =>
    have hw : c = 60 ∨ c = 62 := hw
    rcases hw with rfl | rfl <;> decide
theorem abs_pres {u : U} (hw : Wf u) (hn : u.isSo = true ∨ u.isMk = true) : absU (([112, 114, 101, 115, 101, 114, 118, 101] : Tx), [u.sgn]) = u := by
  cases u with
  | sp => simp [U.isSo, U.isMk] at hn
  | fd => simp [U.isSo, U.isMk] at hn
  | mk c =>
    have hw : c = 60 ∨ c = 62 := hw
    rcases hw with rfl | rfl <;> decide
  | so c =>
    have hw : c ≠ 60 ∧ c ≠ 62 ∧ c ≠ 124 := hw
    by_cases h10 : c = 10
    · subst h10; decide
    by_cases h32 : c = 32
    · subst h32; decide
    show absU (([112, 114, 101, 115, 101, 114, 118, 101] : Tx), [c]) = _
    have ek : kindU (([112, 114, 101, 115, 101, 114, 118, 101] : Tx), [c]) = kdO c := by
      show kindF ([112, 114, 101, 115, 101, 114, 118, 101] : Tx) [c] = _
      unfold kindF kdO
      rw [if_neg (by simpa using h32), if_neg (by simpa using h10), if_neg (by simpa using hw.2.2), if_neg h10]
      by_cases h94 : c = 94
      · rw [if_pos (by simpa using h94), if_pos h94]
      · rw [if_neg (by simpa using h94), if_neg (by simp [hw.1, hw.2.1]), if_neg h94]
        by_cases h6 : wid c = true
        · rw [if_pos ((az_wid c).mpr h6), if_pos h6]
        · rw [if_neg (fun z => h6 ((az_wid c).mp z)), if_neg h6]
    have ns := kdO_solid c
    have ne : kdO c ≠ ([101, 110, 100] : Tx) := fun z => h10 ((kdO_end c).mp z)
    unfold absU
    rw [ek, if_neg (fun z => ns (by rw [z]; decide)), if_neg (fun z => ns (by rw [z]; decide)), if_neg (fun z => ns (by rw [z]; decide)), if_neg ne]
    rfl
def Cw (g : List U) : Prop := ∀ u ∈ g, u.isSo = true ∨ u.isMk = true
def Wfs (g : List U) : Prop := ∀ u ∈ g, Wf u
theorem rd_ok {g : List U} (hn : Ns g) (hw : Wfs g) : Cw (rd g) ∧ Wfs (rd g) := by
  constructor
  · intro u hu
    obtain ⟨v, hv, rfl⟩ := List.mem_map.mp hu
    cases v with
    | so c => cases hn _ hv
    | sp => exact .inl rfl
    | fd => exact .inl rfl
    | mk c => exact .inr rfl
  · intro u hu
    obtain ⟨v, hv, rfl⟩ := List.mem_map.mp hu
    cases v with
    | so c => cases hn _ hv
    | sp => exact ⟨by decide, by decide, by decide⟩
    | fd => exact ⟨by decide, by decide, by decide⟩
    | mk c => exact hw _ hv
theorem fl_sub {c : Nat} {g : List U} {u : U} (h : u ∈ fl c g) : u ∈ g ∨ u = .fd := by
  unfold fl at h
  split at h
  · rcases List.mem_append.mp h with z | z
    · exact .inl (List.mem_filter.mp z).1
    · exact .inr (List.mem_singleton.mp z)
  · exact .inl h
theorem fe_sub {c : Nat} {g : List U} {u : U} (h : u ∈ fe c g) : u ∈ g ∨ u = .fd := by
  unfold fe at h
  split at h
  · rcases List.mem_cons.mp h with z | z
    · exact .inr z
    · exact .inl (List.mem_filter.mp z).1
  · exact .inl h
theorem rest_ok : ∀ (n : Nat) (c : Nat) (us : List U), us.length ≤ n → Wfs us → (Cw (rest c [] us).1 ∧ Wfs (rest c [] us).1) ∧ Ns (rest c [] us).2 ∧ Wfs (rest c [] us).2 := by
  intro n
  have gap : ∀ (c : Nat) (g : List U), Ns g → Wfs g → (Cw (rest c [] g).1 ∧ Wfs (rest c [] g).1) ∧ Ns (rest c [] g).2 ∧ Wfs (rest c [] g).2 := fun c g h hw => by
    rw [rest_gap h]
    refine ⟨⟨fun _ h => (nomatch h), fun _ h => (nomatch h)⟩, ns_fe (ns_gp h), fun u hu => ?_⟩
    rcases fe_sub hu with z | z
    · exact hw u (mem_gpG z)
    · rw [z]; trivial
  induction n with
  | zero =>
    intro c us hl hw
    have : us = [] := List.length_eq_zero_iff.mp (Nat.le_zero.mp hl)
    subst this
    exact gap c [] .nil hw
  | succ n ih =>
    intro c us hl hw
    rcases segs us with ⟨g, h, e⟩ | ⟨g, d, vs, h, e⟩
    · rw [e] at hw ⊢; exact gap c g h hw
    · rw [e] at hw hl ⊢
      have hg : Wfs g := fun u hu => hw u (List.mem_append_left _ hu)
      obtain ⟨⟨a1, a2⟩, a3⟩ := ih d vs (by simp at hl; omega) fun u hu => hw u (List.mem_append_right _ (List.mem_cons_of_mem _ hu))
      have hgp : Wfs (gp (some c) (some d) g) := fun u hu => hg u (mem_gpG hu)
      obtain ⟨r1, r2⟩ := rd_ok (ns_gp (l := some c) (r := some d) h) hgp
      rw [rest_so h]
      refine ⟨⟨fun u hu => ?_, fun u hu => ?_⟩, a3⟩
      · rcases List.mem_append.mp hu with z | z
        · exact r1 u z
        · rcases List.mem_cons.mp z with z | z
          · rw [z]; exact .inl rfl
          · exact a1 u z
      · rcases List.mem_append.mp hu with z | z
        · exact r2 u z
        · rcases List.mem_cons.mp z with z | z
          · rw [z]; exact hw _ (by simp)
          · exact a2 u z
theorem frm_ok {us : List U} (hw : Wfs us) : (Ns (frm us).s ∧ Wfs (frm us).s) ∧ (Cw (frm us).c ∧ Wfs (frm us).c) ∧ Ns (frm us).e ∧ Wfs (frm us).e := by
  rcases segs us with ⟨g, h, e⟩ | ⟨g, d, vs, h, e⟩
  · rw [e] at hw ⊢
    rw [frm_gap h]
    exact ⟨⟨ns_gp (l := none) (r := none) h, fun u (hu : u ∈ gp none none g) => hw u (mem_gpG hu)⟩, ⟨fun _ h => (nomatch h), fun _ h => (nomatch h)⟩, fun _ h => (nomatch h), fun _ h => (nomatch h)⟩
  · rw [e] at hw ⊢
    rw [frm_so h]
    have hg : Wfs g := fun u hu => hw u (List.mem_append_left _ hu)
    obtain ⟨⟨a1, a2⟩, a3⟩ := rest_ok vs.length d vs (Nat.le_refl _) fun u hu => hw u (List.mem_append_right _ (List.mem_cons_of_mem _ hu))
    refine ⟨⟨ns_fl (ns_gp h), fun u hu => ?_⟩, ⟨fun u hu => ?_, fun u hu => ?_⟩, a3⟩
    · rcases fl_sub hu with z | z
      · exact hg u (mem_gpG z)
      · rw [z]; trivial
    · rcases List.mem_cons.mp hu with z | z
      · rw [z]; exact .inl rfl
      · exact a1 u z
    · rcases List.mem_cons.mp hu with z | z
      · rw [z]; exact hw _ (by simp)
      · exact a2 u z
theorem abs_wfs {us : List (Tx × Tx)} (h : OneU us) : Wfs (us.map absU) := fun u hu => by
  obtain ⟨v, hv, rfl⟩ := List.mem_map.mp hu
  exact abs_wf (h v hv)
theorem unitsF_single (m t : Tx) : unitsF [(m, t)] = t.map fun c => (m, [c]) := by
  unfold unitsF signs
  rw [List.flatMap_cons, List.flatMap_nil, List.append_nil, List.map_map]
  rfl
theorem unitsForF_app (t : T3 Tx Tx Tx) : unitsForF t = (t.a.map fun c => (([99, 111, 108, 108, 97, 112, 115, 101] : Tx), [c])) ++ (t.b.map fun c => (([112, 114, 101, 115, 101, 114, 118, 101] : Tx), [c])) ++ (t.c.map fun c => (([99, 111, 108, 108, 97, 112, 115, 101] : Tx), [c])) := by
  unfold unitsForF
  rw [show [(([99, 111, 108, 108, 97, 112, 115, 101] : Tx), t.a), (([112, 114, 101, 115, 101, 114, 118, 101] : Tx), t.b), (([99, 111, 108, 108, 97, 112, 115, 101] : Tx), t.c)] = [(([99, 111, 108, 108, 97, 112, 115, 101] : Tx), t.a)] ++ [(([112, 114, 101, 115, 101, 114, 118, 101] : Tx), t.b)] ++ [(([99, 111, 108, 108, 97, 112, 115, 101] : Tx), t.c)] from rfl]
  unfold unitsF
  rw [List.flatMap_append, List.flatMap_append]
  congr 1
  · congr 1
    · exact unitsF_single _ _
    · exact unitsF_single _ _
  · exact unitsF_single _ _
theorem toT_units {f : F} (h1 : Ns f.s ∧ Wfs f.s) (h2 : Cw f.c ∧ Wfs f.c) (h3 : Ns f.e ∧ Wfs f.e) : (unitsForF (toT f)).map absU = unF f := by
  rw [unitsForF_app]
  unfold toT unF
  rw [List.map_append, List.map_append, List.map_map, List.map_map, List.map_map, List.map_map, List.map_map, List.map_map]
  congr 1
  · congr 1
    · conv => rhs; rw [← List.map_id f.s]
      exact List.map_congr_left fun u hu => abs_coll (h1.2 u hu) (h1.1 u hu)
    · conv => rhs; rw [← List.map_id f.c]
      exact List.map_congr_left fun u hu => abs_pres (h2.2 u hu) (h2.1 u hu)
  · conv => rhs; rw [← List.map_id f.e]
    exact List.map_congr_left fun u hu => abs_coll (h3.2 u hu) (h3.1 u hu)
theorem form_units {us : List (Tx × Tx)} (h : OneU us) : (unitsForF (formF us)).map absU = unF (frm (us.map absU)) := by
  rw [formF_frm h]
  obtain ⟨h1, h2, h3⟩ := frm_ok (abs_wfs h)
  exact toT_units h1 h2 h3
theorem unitsForF_one (t : T3 Tx Tx Tx) : OneU (unitsForF t) := unitsF_one _
/-- forms tell what units do -/
theorem sgn_inj_ns : ∀ {a b : List U}, Ns a → Wfs a → Ns b → Wfs b → a.map U.sgn = b.map U.sgn → a = b := by
  intro a b h1 h2 h3 h4 e
  have : ∀ {a : List U}, Ns a → Wfs a → (a.map U.sgn).map (fun c => absU (([99, 111, 108, 108, 97, 112, 115, 101] : Tx), [c])) = a := fun {a} h1 h2 => by
    rw [List.map_map]
    conv => rhs; rw [← List.map_id a]
    exact List.map_congr_left fun u hu => abs_coll (h2 u hu) (h1 u hu)
  rw [← this h1 h2, ← this h3 h4, e]
theorem sgn_inj_cw : ∀ {a b : List U}, Cw a → Wfs a → Cw b → Wfs b → a.map U.sgn = b.map U.sgn → a = b := by
  intro a b h1 h2 h3 h4 e
  have : ∀ {a : List U}, Cw a → Wfs a → (a.map U.sgn).map (fun c => absU (([112, 114, 101, 115, 101, 114, 118, 101] : Tx), [c])) = a := fun {a} h1 h2 => by
    rw [List.map_map]
    conv => rhs; rw [← List.map_id a]
    exact List.map_congr_left fun u hu => abs_pres (h2 u hu) (h1 u hu)
  rw [← this h1 h2, ← this h3 h4, e]
theorem formF_iff {us vs : List (Tx × Tx)} (h : OneU us) (h2 : OneU vs) : formF us = formF vs ↔ frm (us.map absU) = frm (vs.map absU) := by
  rw [formF_frm h, formF_frm h2]
  refine ⟨fun e => ?_, fun e => by rw [e]⟩
  obtain ⟨a1, a2, a3⟩ := frm_ok (abs_wfs h)
  obtain ⟨b1, b2, b3⟩ := frm_ok (abs_wfs h2)
  generalize frm (us.map absU) = f at e a1 a2 a3
  generalize frm (vs.map absU) = g at e b1 b2 b3
  obtain ⟨s, c, t⟩ := f
  obtain ⟨s', c', t'⟩ := g
  unfold toT at e
  rw [T3.mk.injEq] at e
  rw [F.mk.injEq]
  exact ⟨sgn_inj_ns a1.1 a1.2 b1.1 b1.2 e.1, sgn_inj_cw a2.1 a2.2 b2.1 b2.2 e.2.1, sgn_inj_ns a3.1 a3.2 b3.1 b3.2 e.2.2⟩
/-- the units of a form have the form -/
theorem formF_units {us : List (Tx × Tx)} (h : OneU us) : formF (unitsForF (formF us)) = formF us := by
  rw [formF_iff (unitsForF_one _) h, form_units h, frm_un]
theorem formF_both {us us' vs vs' : List (Tx × Tx)} (h1 : OneU us) (h2 : OneU us') (h3 : OneU vs) (h4 : OneU vs') (e : formF us = formF us') (e2 : formF vs = formF vs') : formF (us ++ vs) = formF (us' ++ vs') := by
  rw [formF_iff (h1.app h3) (h2.app h4), List.map_append, List.map_append]
  exact frm_both ((formF_iff h1 h2).mp e) ((formF_iff h3 h4).mp e2)
theorem formF_tog {us vs : List (Tx × Tx)} (h : OneU us) (h2 : OneU vs) : formF (unitsForF (formF us) ++ unitsForF (formF vs)) = formF (us ++ vs) := formF_both (unitsForF_one _) h (unitsForF_one _) h2 (formF_units h) (formF_units h2)
theorem unitsFor_len (t : T3 Tx Tx Tx) : (unitsForF t).length = t.a.length + t.b.length + t.c.length := by
  rw [unitsForF_app]
  simp
  omega
/-- a form is as long as what is needed -/
theorem rest_len : ∀ (n : Nat) (c : Nat) (us : List U), us.length ≤ n → (rest c [] us).1.length + (rest c [] us).2.length ≤ us.length := by
  have gl : ∀ (l r : Option Nat) (g : List U), (gp l r g).length ≤ g.length := fun l r g => by
    have h1 : ∀ g : List U, (mks g).length ≤ g.length := fun g => List.length_filter_le _ _
    have h2 : ∀ g : List U, (ffd g).length ≤ g.length := fun g => by
      induction g with
      | nil => exact Nat.le_refl _
      | cons u g ih =>
        have := h1 g
        cases u <;> simp <;> omega
    have h3 : ∀ g : List U, (fsp g).length ≤ g.length := fun g => by
      induction g with
      | nil => exact Nat.le_refl _
      | cons u g ih =>
        have := h1 g
        cases u <;> simp <;> omega
    unfold gp gpG
    split
    · exact h1 g
    · split
      · split
        · exact h1 g
        · exact h2 g
      · exact h3 g
  have fel : ∀ (c : Nat) (g : List U), fdIn g = true → (mks g).length + 1 ≤ g.length := fun c g => by
    have h1 : ∀ g : List U, (mks g).length ≤ g.length := fun g => List.length_filter_le _ _
    induction g with
    | nil => intro h; cases h
    | cons u g ih =>
      intro h
      have := h1 g
      cases u with
      | fd => simp; omega
      | sp => have := ih h; simp; omega
      | so d => have := ih (by rw [fdIn_so] at h; exact h); simp; omega
      | mk d => have := ih (by rw [fdIn_mk] at h; exact h); simp; omega
  have fe2 : ∀ (c : Nat) (g : List U), (fe c g).length ≤ g.length := fun c g => by
    unfold fe
    split
    · rename_i z
      exact fel c g z.2
    · exact Nat.le_refl _
  intro n
  induction n with
  | zero =>
    intro c us hl
    have : us = [] := List.length_eq_zero_iff.mp (Nat.le_zero.mp hl)
    subst this
    rw [rest_gap .nil]
    have h1 := fe2 c (gp (some c) none [])
    have h2 := gl (some c) none []
    show 0 + (fe c (gp (some c) none [])).length ≤ 0
    simp only [List.length_nil] at h2
    omega
  | succ n ih =>
    intro c us hl
    rcases segs us with ⟨g, h, e⟩ | ⟨g, d, vs, h, e⟩
    · rw [e, rest_gap h]
      have h1 := fe2 c (gp (some c) none g)
      have h2 := gl (some c) none g
      show 0 + (fe c (gp (some c) none g)).length ≤ g.length
      omega
    · rw [e] at hl
      have := ih d vs (by simp at hl; omega)
      rw [e, rest_so h]
      have := gl (some c) (some d) g
      have : (rd (gp (some c) (some d) g)).length = (gp (some c) (some d) g).length := List.length_map ..
      simp only [List.length_append, List.length_cons] at *
      omega
theorem toT_len (f : F) : (unitsForF (toT f)).length = (unF f).length := by
  rw [unitsFor_len]
  unfold toT unF
  simp
  omega
/-! ### tidy, as the law does it -/
def TdOk (n : Nat) (l : List (Tx × Tx)) : Prop := l.length ≤ n ∧ ∀ p ∈ l, p.2.length ≤ n
theorem tidy_ok {n : Nat} {l : List (Tx × Tx)} {u : Tx × Tx} (h : TdOk n l) (hu : u.2.length = 1) : TdOk (n + 1) (tidyStep l u) := by
  have app : TdOk (n + 1) (l ++ [u]) := ⟨by have := h.1; simp; omega, fun p hp => (List.mem_append.mp hp).elim (fun z => Nat.le_succ_of_le (h.2 p z)) fun z => by rw [List.mem_singleton.mp z]; omega⟩
  unfold tidyStep
  cases hl : l.getLast? with
  | none => exact app
  | some p =>
    show TdOk (n + 1) (if p.1 = u.1 then _ else _)
    split
    · have hp : p ∈ l := List.mem_of_getLast? hl
      refine ⟨by have := h.1; have : 0 < l.length := List.length_pos_of_mem hp; simp; omega, fun q hq => (List.mem_append.mp hq).elim (fun z => Nat.le_succ_of_le (h.2 q (List.dropLast_subset l z))) fun z => ?_⟩
      rw [List.mem_singleton.mp z]
      have := h.2 p hp
      show (p.2 ++ u.2).length ≤ n + 1
      rw [List.length_append]
      omega
    · exact app
theorem ltidy_loop {body : Unit → Tx × Tx → M (Unit × List (Tx × Tx)) (Unit × List (Tx × Tx)) (Fl Unit (List (Tx × Tx)))} (hb : ∀ x u acc n, TdOk n acc → n < line → x.2.length = 1 → body () x (u, acc) = some (.nx (), (u, tidyStep acc x))) : ∀ (us : List (Tx × Tx)) (u : Unit) (acc : List (Tx × Tx)) (n : Nat), TdOk n acc → OneU us → n + us.length ≤ line → loopM body us () (u, acc) = some (.nx (), (u, us.foldl tidyStep acc))
  | [], u, acc, n, _, _, _ => rfl
  | x :: us, u, acc, n, h, h1, hl => by
    obtain ⟨c, e⟩ := h1 x List.mem_cons_self
    have hx : x.2.length = 1 := by rw [e]; rfl
    rw [List.length_cons] at hl
    show bd (body () x) _ (u, acc) = _
    rw [bd_ap (hb x u acc n h (by omega) hx)]
    exact ltidy_loop hb us u (tidyStep acc x) (n + 1) (tidy_ok h hx) (fun v hv => h1 v (List.mem_cons_of_mem _ hv)) (by omega)
theorem set_last {α : Type} {l : List α} {x : α} (h : l ≠ []) : l.set (l.length - 1) x = l.dropLast ++ [x] := by
  have key : ∀ (a : List α) (y : α), (a ++ [y]).set ((a ++ [y]).length - 1) x = a ++ [x] := fun a y => by
    have e : (a ++ [y]).length - 1 = a.length := by simp
    rw [e]
    induction a with
    | nil => rfl
    | cons b a ih => 
      rw [List.cons_append, List.length_cons, List.set_cons_succ, List.cons_append]
      rw [ih (by simp)]
  have e := List.dropLast_concat_getLast h
  have := key l.dropLast (l.getLast h)
  rw [e] at this
  exact this
theorem ltidy_eq {us : List (Tx × Tx)} (h : OneU us) (hl : us.length ≤ line) : m_law_tidy us = pu (tidyF us) := by
  funext b
  unfold m_law_tidy mb_law_tidy
  simp only [bd_pu, mMap_pu, mCons_pu]
  unfold retM
  rw [bd_ap (x := .rt (tidyF us)) (b1 := ())]
  rw [newM_ap]
  unfold mThen
  rw [bd_ap (ltidy_loop ?_ us b [] 0 ⟨Nat.le_refl _, fun _ h => nomatch h⟩ h (by omega))]
  · rfl
  · intro x u acc n ht hn hx
    have app : (bd (bd (pu (pr2 (x.1, x.2, ()))) (mUpd (fun b : (Unit × List (Tx × Tx)) => b.2) (fun (b : (Unit × List (Tx × Tx))) l => (b.1, l)) gApp)) fun _ => pu (.nx ()) : M (Unit × List (Tx × Tx)) (Unit × List (Tx × Tx)) (Fl Unit (List (Tx × Tx)))) (u, acc) = some (.nx (), (u, acc ++ [x])) := by
      rw [bd_pu]
      refine (bd_ap (x := ()) (b1 := (u, acc ++ [x])) ?_).trans rfl
      unfold mUpd gApp
      show Option.map _ (if acc.length < line then _ else _) = _
      rw [if_pos (by have := ht.1; omega)]
      rfl
    have hthen : ∀ {m : M (Unit × List (Tx × Tx)) (Unit × List (Tx × Tx)) (Fl Unit (List (Tx × Tx)))} {l : List (Tx × Tx)}, m (u, acc) = some (.nx (), (u, l)) → mThen (fun b : (Unit × List (Tx × Tx)) => b) m (fun g3 => pu (.nx ())) (u, acc) = some (.nx (), (u, l)) := fun {m l} e => by
      unfold mThen
      rw [bd_ap e]
      rfl
    refine hthen ?_
    unfold tidyStep
    cases hg : acc.getLast? with
    | none =>
      have ha : acc = [] := List.getLast?_eq_none_iff.mp hg
      have ec : (mOp (gB fun i j => decide (j < i)) ((fun b : (Unit × List (Tx × Tx)) => some ((((fun b : (Unit × List (Tx × Tx)) => b.2) b).length : Int), b))) (pu (0 : Int)) : M (Unit × List (Tx × Tx)) (Unit × List (Tx × Tx)) Bool) (u, acc) = some (false, (u, acc)) := by
        subst ha
        rfl
      unfold mIf
      rw [bd_ap (x := false) (b1 := (u, acc)) (by unfold mAnd; rw [bd_ap ec]; rfl)]
      exact app
    | some p =>
      have hne : acc ≠ [] := fun z => by rw [z] at hg; cases hg
      have hp : p ∈ acc := List.mem_of_getLast? hg
      have hpos : 0 < acc.length := List.length_pos_of_mem hp
      have ec : (mOp (gB fun i j => decide (j < i)) ((fun b : (Unit × List (Tx × Tx)) => some ((((fun b : (Unit × List (Tx × Tx)) => b.2) b).length : Int), b))) (pu (0 : Int)) : M (Unit × List (Tx × Tx)) (Unit × List (Tx × Tx)) Bool) (u, acc) = some (true, (u, acc)) := by
        show some (decide ((0 : Int) < acc.length), _) = _
        rw [decide_eq_true (by omega)]
      have pk : atI acc (-1 : Int) = some p := by
        refine atI_m1 ?_
        rw [← hg, List.getLast?_eq_getElem?]
      have ep : (mPeek (fun b : (Unit × List (Tx × Tx)) => b.2) (pu (-1 : Int)) : M (Unit × List (Tx × Tx)) (Unit × List (Tx × Tx)) (Tx × Tx)) (u, acc) = some (p, (u, acc)) := by
        unfold mPeek
        rw [bd_pu]
        show Option.map _ (atI acc (-1)) = _
        rw [pk]
        rfl
      have e1 : (mOp gEqS (mOp (fun (x : (Tx × Tx)) (i : Int) => gK x.1 0 i) (mPeek (fun b : (Unit × List (Tx × Tx)) => b.2) (pu (-1 : Int))) (pu (0 : Int))) (pu x.1) : M (Unit × List (Tx × Tx)) (Unit × List (Tx × Tx)) Bool) (u, acc) = some (decide (p.1 = x.1), (u, acc)) := by
        unfold mOp
        rw [bd_ap (x := p.1) (b1 := (u, acc)) (by rw [bd_ap ep]; rfl), bd_pu, gEqS_tx]
        rfl
      have e2 : (mOp (fun (x : (Tx × Tx)) (i : Int) => gK x.2 1 i) (mPeek (fun b : (Unit × List (Tx × Tx)) => b.2) (pu (-1 : Int))) (pu (1 : Int)) : M (Unit × List (Tx × Tx)) (Unit × List (Tx × Tx)) Tx) (u, acc) = some (p.2, (u, acc)) := by
        unfold mOp
        rw [bd_ap ep]
        rfl
      unfold mIf
      rw [bd_ap (x := decide (p.1 = x.1)) (b1 := (u, acc)) (by unfold mAnd; rw [bd_ap ec]; exact e1)]
      by_cases hm : p.1 = x.1
      · rw [if_pos (decide_eq_true hm)]
        show _ = some (_, (u, if p.1 = x.1 then _ else _))
        rw [if_pos hm]
        refine (bd_ap (x := ()) (b1 := (u, acc.dropLast ++ [(p.1, p.2 ++ x.2)])) ?_).trans rfl
        refine (bd_ap (x := (x.1, p.2 ++ x.2)) (b1 := (u, acc)) ?_).trans ?_
        · have h3 : (mOp gCat (mOp (fun (x : (Tx × Tx)) (i : Int) => gK x.2 1 i) (mPeek (fun b : (Unit × List (Tx × Tx)) => b.2) (pu (-1 : Int))) (pu (1 : Int))) (pu x.2) : M (Unit × List (Tx × Tx)) (Unit × List (Tx × Tx)) Tx) (u, acc) = some (p.2 ++ x.2, (u, acc)) := by
            unfold mOp at e2 ⊢
            rw [bd_ap e2, bd_pu, gCat_ok (by have := ht.2 p hp; omega)]
            rfl
          unfold mMap mCons
          rw [bd_ap (x := (x.1, p.2 ++ x.2, ())) (b1 := (u, acc))]
          · rfl
          · rw [bd_pu, bd_ap (x := (p.2 ++ x.2, ())) (b1 := (u, acc))]
            · rfl
            · rw [bd_ap h3]
              rfl
        · unfold mUpd gSetLast
          show Option.map _ (if acc = [] then none else some (acc.set (acc.length - 1) (x.1, p.2 ++ x.2))) = _
          rw [if_neg hne, set_last hne, ← hm]
          rfl
      · rw [if_neg (by simp [hm])]
        show _ = some (_, (u, if p.1 = x.1 then _ else _))
        rw [if_neg hm]
        exact app
/-! ### signs of the plane -/
def UAsc (us : List (Tx × Tx)) : Prop := ∀ u ∈ us, u.1 ∈ MODES ∧ ∃ c, u.2 = [c] ∧ Sg c
theorem UAsc.one {us : List (Tx × Tx)} (h : UAsc us) : OneU us := fun u hu => by
  obtain ⟨_, c, e, _⟩ := h u hu
  exact ⟨c, e⟩
theorem UAsc.app {us vs : List (Tx × Tx)} (h : UAsc us) (h2 : UAsc vs) : UAsc (us ++ vs) := fun u hu => (List.mem_append.mp hu).elim (h u) (h2 u)
theorem FrOk.asc {n k : Nat} {fr : List (Tx × Tx)} (h : FrOk n k fr) : UAsc (unitsF fr) := fun u hu => by
  obtain ⟨p, hp, hu⟩ := List.mem_flatMap.mp hu
  obtain ⟨s, hs, rfl⟩ := List.mem_map.mp hu
  obtain ⟨c, hc, rfl⟩ := List.mem_map.mp hs
  have := h.2 p hp
  exact ⟨this.2.1, c, rfl, this.2.2 c hc⟩
theorem rest_all (P : U → Prop) (h1 : P .fd) (h2 : P (.so 32)) : ∀ (n : Nat) (c : Nat) (us : List U), us.length ≤ n → (∀ u ∈ us, P u) → (∀ u ∈ (rest c [] us).1, P u) ∧ ∀ u ∈ (rest c [] us).2, P u := by
  intro n
  have gap : ∀ (c : Nat) (g : List U), Ns g → (∀ u ∈ g, P u) → (∀ u ∈ (rest c [] g).1, P u) ∧ ∀ u ∈ (rest c [] g).2, P u := fun c g h hw => by
    rw [rest_gap h]
    refine ⟨fun _ h => (nomatch h), fun u hu => ?_⟩
    rcases fe_sub hu with z | z
    · exact hw u (mem_gpG z)
    · rw [z]; exact h1
  induction n with
  | zero =>
    intro c us hl hw
    have : us = [] := List.length_eq_zero_iff.mp (Nat.le_zero.mp hl)
    subst this
    exact gap c [] .nil hw
  | succ n ih =>
    intro c us hl hw
    rcases segs us with ⟨g, h, e⟩ | ⟨g, d, vs, h, e⟩
    · rw [e] at hw ⊢; exact gap c g h hw
    · rw [e] at hw hl ⊢
      obtain ⟨a1, a2⟩ := ih d vs (by simp at hl; omega) fun u hu => hw u (List.mem_append_right _ (List.mem_cons_of_mem _ hu))
      rw [rest_so h]
      refine ⟨fun u hu => ?_, a2⟩
      rcases List.mem_append.mp hu with z | z
      · obtain ⟨v, hv, rfl⟩ := List.mem_map.mp z
        have hv := hw v (List.mem_append_left _ (mem_gpG hv))
        cases v with
        | sp => exact h2
        | fd => exact h2
        | so c => exact hv
        | mk c => exact hv
      · rcases List.mem_cons.mp z with z | z
        · rw [z]; exact hw _ (by simp)
        · exact a1 u z
theorem frm_all (P : U → Prop) (h1 : P .fd) (h2 : P (.so 32)) {us : List U} (hw : ∀ u ∈ us, P u) : ∀ u ∈ unF (frm us), P u := by
  rcases segs us with ⟨g, h, e⟩ | ⟨g, d, vs, h, e⟩
  · rw [e] at hw ⊢
    rw [frm_gap h]
    intro u hu
    simp only [unF, List.append_nil] at hu
    exact hw u (mem_gpG hu)
  · rw [e] at hw ⊢
    rw [frm_so h]
    obtain ⟨a1, a2⟩ := rest_all P h1 h2 vs.length d vs (Nat.le_refl _) fun u hu => hw u (List.mem_append_right _ (List.mem_cons_of_mem _ hu))
    intro u hu
    rcases List.mem_append.mp hu with z | z
    · rcases List.mem_append.mp z with z | z
      · rcases fl_sub z with z | z
        · exact hw u (List.mem_append_left _ (mem_gpG z))
        · rw [z]; exact h1
      · rcases List.mem_cons.mp z with z | z
        · rw [z]; exact hw _ (by simp)
        · exact a1 u z
    · exact a2 u z
theorem abs_asc {us : List (Tx × Tx)} (h : UAsc us) : ∀ u ∈ us.map absU, Sg u.sgn := fun u hu => by
  obtain ⟨v, hv, rfl⟩ := List.mem_map.mp hu
  obtain ⟨_, c, e, hc⟩ := h v hv
  have ec : chU v = c := by unfold chU; rw [e]; rfl
  unfold absU
  rw [ec]
  split
  · decide
  · split
    · decide
    · split
      · exact hc
      · split
        · decide
        · exact hc
theorem okT_of {t : Tx} (h : ∀ c ∈ t, Sg c) : okT t = true := List.all_eq_true.mpr fun c hc => decide_eq_true (Nat.lt_of_lt_of_le (h c hc).1 (by decide))
theorem form_asc {us : List (Tx × Tx)} (h : UAsc us) : Asc (formF us).a ∧ Asc (formF us).b ∧ Asc (formF us).c := by
  rw [formF_frm h.one]
  have := frm_all (fun u => Sg u.sgn) (by decide) (by decide) (abs_asc h)
  refine ⟨fun c hc => ?_, fun c hc => ?_, fun c hc => ?_⟩
  · obtain ⟨u, hu, rfl⟩ := List.mem_map.mp hc
    exact this u (List.mem_append_left _ (List.mem_append_left _ hu))
  · obtain ⟨u, hu, rfl⟩ := List.mem_map.mp hc
    exact this u (List.mem_append_left _ (List.mem_append_right _ hu))
  · obtain ⟨u, hu, rfl⟩ := List.mem_map.mp hc
    exact this u (List.mem_append_right _ hu)
theorem form_ok {us : List (Tx × Tx)} (h : UAsc us) : EqD.ok (formF us) = true := by
  obtain ⟨h1, h2, h3⟩ := form_asc h
  show (okT _ && (okT _ && okT _)) = true
  rw [okT_of h1, okT_of h2, okT_of h3]
  rfl
theorem frm_len (us : List U) : (unF (frm us)).length ≤ us.length := by
  have step : ∀ (us : List U), ∀ u, (unF (stL u (frm us))).length ≤ (unF (frm us)).length + 1 := fun us u => by
    have a := rest_len
    have h := frm_cons u us
    rw [← h]
    have gl : ∀ (l r : Option Nat) (g : List U), (gp l r g).length ≤ g.length := fun l r g => by
      have h1 : ∀ g : List U, (mks g).length ≤ g.length := fun g => List.length_filter_le _ _
      have h2 : ∀ g : List U, (ffd g).length ≤ g.length := fun g => by
        induction g with
        | nil => exact Nat.le_refl _
        | cons u g ih =>
          have := h1 g
          cases u <;> simp <;> omega
      have h3 : ∀ g : List U, (fsp g).length ≤ g.length := fun g => by
        induction g with
        | nil => exact Nat.le_refl _
        | cons u g ih =>
          have := h1 g
          cases u <;> simp <;> omega
      unfold gp gpG
      split
      · exact h1 g
      · split
        · split
          · exact h1 g
          · exact h2 g
        · exact h3 g
    have fdl : ∀ (g : List U), fdIn g = true → (mks g).length + 1 ≤ g.length := fun g => by
      have h1 : ∀ g : List U, (mks g).length ≤ g.length := fun g => List.length_filter_le _ _
      induction g with
      | nil => intro h; cases h
      | cons u g ih =>
        intro h
        have := h1 g
        cases u with
        | fd => simp; omega
        | sp => have := ih h; simp; omega
        | so d => have := ih (by rw [fdIn_so] at h; exact h); simp; omega
        | mk d => have := ih (by rw [fdIn_mk] at h; exact h); simp; omega
    have fll : ∀ (c : Nat) (g : List U), (fl c g).length ≤ g.length := fun c g => by
      unfold fl
      split
      · rename_i z
        have := fdl g z.2
        simp; omega
      · exact Nat.le_refl _
    have fel : ∀ (c : Nat) (g : List U), (fe c g).length ≤ g.length := fun c g => by
      unfold fe
      split
      · rename_i z
        exact fdl g z.2
      · exact Nat.le_refl _
    rw [h]
    generalize frm us = f
    obtain ⟨s, c, e⟩ := f
    have rl : ∀ g : List U, (rd g).length = g.length := fun g => List.length_map ..
    cases c with
    | nil =>
      have ns : ∀ u : U, u.isSo = false → (unF (⟨gp none none (u :: s), [], []⟩ : F)).length ≤ (unF ⟨s, [], e⟩).length + 1 := fun u _ => by
        have h2 := gl none none (u :: s)
        simp only [unF, List.length_append, List.length_nil, List.length_cons] at *
        omega
      cases u with
      | so d =>
        show (unF (⟨[], [.so d], fe d (gp (some d) none s)⟩ : F)).length ≤ _
        have h1 := fel d (gp (some d) none s)
        have h2 := gl (some d) none s
        simp only [unF, List.length_append, List.length_nil, List.length_cons] at *
        omega
      | sp => exact ns .sp rfl
      | fd => exact ns .fd rfl
      | mk d => exact ns (.mk d) rfl
    | cons x cs =>
      have same : ∀ x : U, (unF (⟨s, x :: cs, e⟩ : F)).length ≤ (unF (⟨s, x :: cs, e⟩ : F)).length + 1 := fun _ => Nat.le_succ _
      cases x with
      | so x =>
        have ns : ∀ u : U, u.isSo = false → (unF (⟨fl x (gp none (some x) (u :: s)), .so x :: cs, e⟩ : F)).length ≤ (unF ⟨s, .so x :: cs, e⟩).length + 1 := fun u _ => by
          have h1 := fll x (gp none (some x) (u :: s))
          have h2 := gl none (some x) (u :: s)
          simp only [unF, List.length_append, List.length_nil, List.length_cons] at *
          omega
        cases u with
        | so d =>
          show (unF (⟨[], .so d :: (rd (gp (some d) (some x) s) ++ .so x :: cs), e⟩ : F)).length ≤ _
          have h2 := gl (some d) (some x) s
          simp only [unF, List.length_append, List.length_nil, List.length_cons, rl] at *
          omega
        | sp => exact ns .sp rfl
        | fd => exact ns .fd rfl
        | mk d => exact ns (.mk d) rfl
      | sp => cases u <;> exact same .sp
      | fd => cases u <;> exact same .fd
      | mk d => cases u <;> exact same (.mk d)
  induction us with
  | nil => exact Nat.le_refl _
  | cons u us ih =>
    rw [frm_cons, List.length_cons]
    have := step us u
    omega
theorem formF_len {us : List (Tx × Tx)} (h : OneU us) : (unitsForF (formF us)).length ≤ us.length := by
  rw [formF_frm h, toT_len]
  have := frm_len (us.map absU)
  rw [List.length_map] at this
  exact this
/-! ### equations of mirrors, joined -/
theorem nform_eq {fr : List (Tx × Tx)} (hl : (unitsF fr).length ≤ 100000) : m_normal_form fr = pu (formF (unitsF fr)) := by
  have big : 100001 < line := by decide
  unfold m_normal_form mb_normal_form
  simp only [mCons_pu, bd_pu, units_eq (show (unitsF fr).length ≤ line by omega), zoomU_pu, form_eq (unitsF_one fr) hl, mRet_pu, retM_rt]
theorem gNe_same {α : Type} [EqD α] [EqL α] [DecidableEq α] {x : α} (h1 : EqD.ok x = true) (h3 : EqD.dep α ≤ 64 := by decide) : gNeD x x = some false := by
  rw [gNeD_ok h1 h1 h3, decide_eq_true rfl]
  rfl
theorem lunits_tot {β : Type} {I : β → Prop} {m : M β β (List (Tx × Tx))} {n k : Nat} (h : Tot I m (FrOk n k)) (hk : n * k ≤ 100000) : Tot I (bd (mCons m (pu ())) fun x => zoom (fun _ => ()) (fun b _ => b) (m_law_units x.1)) fun us => UAsc us ∧ us.length ≤ n * k := by
  have big : 100001 < line := by decide
  refine .bd (Tot.one h) fun z hz => ?_
  have hz : FrOk n k z.1 := hz
  have ul := units_len hz
  rw [lunits_eq (show (unitsF z.1).length ≤ line by omega), zoomU_pu]
  exact .pu ⟨hz.asc, ul⟩
/-! ### tidy, as the program does it -/
def jR (r : TdR) : Tx × Tx := (r.1, r.2.flatten)
theorem td_go : ∀ (us : List (Tx × Tx)) (c : TdS) (n : Nat), OneU us → n + us.length + 1 < line → ((tdEnd c).length ≤ n ∧ ∀ r ∈ tdEnd c, r.2.length ≤ n ∧ r.2.flatten.length ≤ n) →
    ∃ c', tdGo us c = some c' ∧ (tdEnd c').map jR = us.foldl tidyStep ((tdEnd c).map jR) ∧ ((tdEnd c').length ≤ n + us.length ∧ ∀ r ∈ tdEnd c', r.2.length ≤ n + us.length ∧ r.2.flatten.length ≤ n + us.length)
  | [], c, n, _, _, h => ⟨c, rfl, rfl, h⟩
  | x :: us, c, n, h1, hl, h => by
    obtain ⟨ch, ex⟩ := h1 x List.mem_cons_self
    obtain ⟨m, s⟩ := x
    have ex : s = [ch] := ex
    subst ex
    have h1' : OneU us := fun v hv => h1 v (List.mem_cons_of_mem _ hv)
    rw [List.length_cons] at hl ⊢
    have step : ∀ c2 : TdS, tdGo ((m, [ch]) :: us) c = tdGo us c2 → (tdEnd c2).map jR = tidyStep ((tdEnd c).map jR) (m, [ch]) → ((tdEnd c2).length ≤ n + 1 ∧ ∀ r ∈ tdEnd c2, r.2.length ≤ n + 1 ∧ r.2.flatten.length ≤ n + 1) → ∃ c', tdGo ((m, [ch]) :: us) c = some c' ∧ (tdEnd c').map jR = ((m, [ch]) :: us).foldl tidyStep ((tdEnd c).map jR) ∧ ((tdEnd c').length ≤ n + (us.length + 1) ∧ ∀ r ∈ tdEnd c', r.2.length ≤ n + (us.length + 1) ∧ r.2.flatten.length ≤ n + (us.length + 1)) := fun c2 e1 e2 e3 => by
      obtain ⟨c', q1, q2, q3⟩ := td_go us c2 (n + 1) h1' (by omega) e3
      refine ⟨c', e1.trans q1, by rw [List.foldl_cons, ← e2]; exact q2, ?_⟩
      rw [show n + (us.length + 1) = n + 1 + us.length by omega]
      exact q3
    cases c with
    | none => exact step (some ([], m, [[ch]])) rfl rfl ⟨by show 1 ≤ n + 1; omega, fun r hr => by
        have : r = (m, [[ch]]) := by simpa [tdEnd] using hr
        rw [this]
        exact ⟨by show 1 ≤ n + 1; omega, by show 1 ≤ n + 1; omega⟩⟩
    | some c =>
      obtain ⟨d, m2, ss⟩ := c
      have hd : d.length + 1 ≤ n := by
        have := h.1
        simpa [tdEnd] using this
      have hs : ss.length ≤ n ∧ ss.flatten.length ≤ n := h.2 (m2, ss) (by simp [tdEnd])
      have hdr : ∀ r ∈ d, r.2.length ≤ n ∧ r.2.flatten.length ≤ n := fun r hr => h.2 r (by simp [tdEnd, hr])
      have eL : ((tdEnd (some (d, m2, ss))).map jR).getLast? = some (m2, ss.flatten) := by
        show ((d ++ [(m2, ss)]).map jR).getLast? = _
        rw [List.map_append]
        exact List.getLast?_concat
      have eD : ((tdEnd (some (d, m2, ss))).map jR).dropLast = d.map jR := by
        show ((d ++ [(m2, ss)]).map jR).dropLast = _
        rw [List.map_append]
        exact List.dropLast_concat
      by_cases hm : m2 = m
      · refine step (some (d, m2, ss ++ [[ch]])) ?_ ?_ ?_
        · show (if m2 = m then (if ss.length < line then _ else _) else _) = _
          rw [if_pos hm, if_pos (by omega)]
        · unfold tidyStep
          rw [eL]
          show _ = if m2 = m then _ else _
          rw [if_pos hm, eD]
          show (d ++ [(m2, ss ++ [[ch]])]).map jR = _
          rw [List.map_append]
          show d.map jR ++ [(m2, (ss ++ [[ch]]).flatten)] = _
          rw [List.flatten_append]
          rfl
        · refine ⟨by show (d ++ [(m2, ss ++ [[ch]])]).length ≤ n + 1; rw [List.length_append]; simp; omega, fun r hr => ?_⟩
          have hr : r ∈ d ++ [(m2, ss ++ [[ch]])] := hr
          rcases List.mem_append.mp hr with z | z
          · have := hdr r z
            omega
          · rw [List.mem_singleton.mp z]
            refine ⟨by simp; omega, ?_⟩
            show (ss ++ [[ch]]).flatten.length ≤ n + 1
            rw [List.flatten_append, List.length_append]
            show ss.flatten.length + 1 ≤ n + 1
            omega
      · refine step (some (d ++ [(m2, ss)], m, [[ch]])) ?_ ?_ ?_
        · show (if m2 = m then (if ss.length < line then _ else _) else if d.length + 1 < line then _ else _) = _
          rw [if_neg hm, if_pos (by omega)]
        · unfold tidyStep
          rw [eL]
          show _ = if m2 = m then _ else _
          rw [if_neg hm]
          show ((d ++ [(m2, ss)]) ++ [(m, [[ch]])]).map jR = _
          rw [List.map_append]
          rfl
        · refine ⟨by show ((d ++ [(m2, ss)]) ++ [(m, [[ch]])]).length ≤ n + 1; simp; omega, fun r hr => ?_⟩
          have hr : r ∈ (d ++ [(m2, ss)]) ++ [(m, [[ch]])] := hr
          rcases List.mem_append.mp hr with z | z
          · rcases List.mem_append.mp z with z | z
            · have := hdr r z
              omega
            · rw [List.mem_singleton.mp z]
              exact ⟨by show ss.length ≤ n + 1; omega, by show ss.flatten.length ≤ n + 1; omega⟩
          · rw [List.mem_singleton.mp z]
            exact ⟨by show 1 ≤ n + 1; omega, by show 1 ≤ n + 1; omega⟩
theorem sum_len : ∀ ss : List Tx, (ss.map (·.length)).sum = ss.flatten.length
  | [] => rfl
  | s :: ss => by rw [List.map_cons, List.sum_cons, sum_len ss, List.flatten_cons, List.length_append]
theorem tidy_eq {us : List (Tx × Tx)} (h : OneU us) (hl : us.length ≤ 100000) : m_tidy us = pu (tidyF us) := by
  have big : 200001 < line := by decide
  obtain ⟨c', q1, q2, q3, q4⟩ := td_go us none 0 h (by omega) ⟨Nat.le_refl _, fun r hr => nomatch hr⟩
  rw [Nat.zero_add] at q3 q4
  unfold m_tidy mb_tidy
  have e : tdRuns us = some (tdEnd c') := by unfold tdRuns; rw [q1]; rfl
  rw [e, ov_get, bd_pu]
  simp only [mCons_pu, mMap_pu]
  rw [mLc_map (g := jR) (by omega) fun r hr => ?_]
  · rw [q2, mRet_pu, retM_rt]
    rfl
  · have hj : gJoin [] (r.2, ()) = some r.2.flatten := by
      unfold gJoin
      refine if_pos ⟨rfl, ?_⟩
      show (r.2.map (·.length)).sum ≤ line
      rw [sum_len]
      have := (q4 r hr).2
      omega
    rw [mOp_pu, hj, ov_get]
    rfl
theorem shortened_eq {fr : List (Tx × Tx)} (hl : (unitsF fr).length ≤ 100000) : m_shortened fr = pu (tidyF (needF (unitsF fr))) := by
  have big : 100001 < line := by decide
  have o := unitsF_one fr
  have nl := needF_len (unitsF fr)
  unfold m_shortened mb_shortened
  simp only [mCons_pu, bd_pu, units_eq (show (unitsF fr).length ≤ line by omega), zoomU_pu, needed_eq o hl, tidy_eq (needF_one o) (show (needF (unitsF fr)).length ≤ 100000 by omega), mRet_pu, retM_rt]
theorem stands_eq {t : T3 Tx Tx Tx} (h : (unitsForF t).length ≤ 100000) : m_stands_for t = pu (tidyF (unitsForF t)) := by
  have big : 100001 < line := by decide
  unfold m_stands_for mb_stands_for
  simp only [mCons_pu, bd_pu, unitsFor_eq (show (unitsForF t).length ≤ line by omega), zoomU_pu, tidy_eq (unitsForF_one t) h, mRet_pu, retM_rt]
/-! ### what is needed stays; the form is as long -/
section
variable {α : Type} {ab : α → U}
def NsG (ab : α → U) (g : List α) : Prop := ∀ a ∈ g, (ab a).isSo = false
theorem needG_ns {r0 : Option Nat} : ∀ {g cur vs : List α} {l : Option Nat}, NsG ab g → needG ab r0 l cur (g ++ vs) = needG ab r0 l (cur ++ g) vs
  | [], cur, vs, l, _ => by simp
  | a :: g, cur, vs, l, h => by
    have ih := needG_ns (r0 := r0) (g := g) (cur := cur ++ [a]) (vs := vs) (l := l) fun b hb => h b (List.mem_cons_of_mem _ hb)
    rw [List.append_assoc] at ih
    have ha := h a List.mem_cons_self
    rw [List.cons_append, needG]
    cases e : ab a with
    | so c => rw [e] at ha; cases ha
    | sp => exact ih
    | fd => exact ih
    | mk c => exact ih
theorem needG_so {r0 l : Option Nat} {g vs : List α} {a : α} {c : Nat} (h : NsG ab g) (e : ab a = .so c) : needG ab r0 l [] (g ++ a :: vs) = gpG ab l (some c) g ++ a :: needG ab r0 (some c) [] vs := by
  rw [needG_ns h, List.nil_append, needG, e]
theorem needG_gap {r0 l : Option Nat} {g : List α} (h : NsG ab g) : needG ab r0 l [] g = gpG ab l r0 g := by
  have := needG_ns (r0 := r0) (l := l) (cur := []) (vs := []) h
  rw [List.append_nil] at this
  exact this
theorem segsG (ab : α → U) (us : List α) : NsG ab us ∨ ∃ g a c vs, NsG ab g ∧ ab a = .so c ∧ us = g ++ a :: vs := by
  induction us with
  | nil => exact .inl fun _ h => nomatch h
  | cons a us ih =>
    cases e : (ab a).isSo with
    | true =>
      cases e2 : ab a with
      | so c => exact .inr ⟨[], a, c, us, fun _ h => (nomatch h), e2, rfl⟩
      | sp => rw [e2] at e; cases e
      | fd => rw [e2] at e; cases e
      | mk c => rw [e2] at e; cases e
    | false =>
      have key : ∀ g : List α, NsG ab g → NsG ab (a :: g) := fun g h b hb => by
        rcases List.mem_cons.mp hb with z | z
        · rw [z]; exact e
        · exact h b z
      rcases ih with h | ⟨g, b, c, vs, h, e2, e3⟩
      · exact .inl (key us h)
      · exact .inr ⟨a :: g, b, c, vs, key g h, e2, by rw [e3]; rfl⟩
theorem mksG_pos {a : α} {g : List α} (h : (ab a).isMk = true) : mksG ab (a :: g) = a :: mksG ab g := List.filter_cons_of_pos (p := fun a => (ab a).isMk) h
theorem mksG_neg {a : α} {g : List α} (h : ¬ (ab a).isMk = true) : mksG ab (a :: g) = mksG ab g := List.filter_cons_of_neg (p := fun a => (ab a).isMk) h
theorem mksG_idem (g : List α) : mksG ab (mksG ab g) = mksG ab g := by
  unfold mksG
  rw [List.filter_filter]
  simp
theorem mk_ne {u : U} (h : u.isMk = true) : u ≠ .fd ∧ u ≠ .sp := by
  constructor <;> intro e <;> rw [e] at h <;> cases h
theorem hasFd_mks (g : List α) : hasFd ab (mksG ab g) = false := by
  unfold hasFd
  rw [List.any_eq_false]
  intro a ha
  have := (List.mem_filter.mp ha).2
  simpa using (mk_ne this).1
theorem ffdG_mks : ∀ g : List α, ffdG ab (mksG ab g) = mksG ab g
  | [] => rfl
  | a :: g => by
    unfold mksG
    rw [List.filter_cons]
    split
    · rename_i h
      rw [ffdG, if_neg (mk_ne h).1, if_pos h]
      exact congrArg _ (ffdG_mks g)
    · exact ffdG_mks g
theorem fspG_mks : ∀ g : List α, fspG ab (mksG ab g) = mksG ab g
  | [] => rfl
  | a :: g => by
    unfold mksG
    rw [List.filter_cons]
    split
    · rename_i h
      rw [fspG, if_neg (mk_ne h).2, if_pos h]
      exact congrArg _ (fspG_mks g)
    · exact fspG_mks g
theorem mksG_ffd : ∀ g : List α, mksG ab (ffdG ab g) = mksG ab g
  | [] => rfl
  | a :: g => by
    unfold ffdG
    by_cases h : ab a = .fd
    · rw [if_pos h]
      have : (ab a).isMk = false := by rw [h]; rfl
      rw [mksG_neg (by rw [this]; decide), mksG_neg (by rw [this]; decide), mksG_idem g]
    · rw [if_neg h]
      by_cases h2 : (ab a).isMk = true
      · rw [if_pos h2]
        rw [mksG_pos h2, mksG_pos h2, mksG_ffd g]
      · rw [if_neg h2]
        rw [mksG_neg h2, mksG_ffd g]
theorem mksG_fsp : ∀ g : List α, mksG ab (fspG ab g) = mksG ab g
  | [] => rfl
  | a :: g => by
    unfold fspG
    by_cases h : ab a = .sp
    · rw [if_pos h]
      have : (ab a).isMk = false := by rw [h]; rfl
      rw [mksG_neg (by rw [this]; decide), mksG_neg (by rw [this]; decide), mksG_idem g]
    · rw [if_neg h]
      by_cases h2 : (ab a).isMk = true
      · rw [if_pos h2]
        rw [mksG_pos h2, mksG_pos h2, mksG_fsp g]
      · rw [if_neg h2]
        rw [mksG_neg h2, mksG_fsp g]
theorem hasFd_ffd : ∀ g : List α, hasFd ab (ffdG ab g) = hasFd ab g
  | [] => rfl
  | a :: g => by
    unfold ffdG
    by_cases h : ab a = .fd
    · rw [if_pos h]
      unfold hasFd
      rw [List.any_cons, List.any_cons, decide_eq_true h]
      rfl
    · rw [if_neg h]
      have e : hasFd ab (a :: g) = hasFd ab g := by unfold hasFd; rw [List.any_cons, decide_eq_false h]; rfl
      rw [e]
      by_cases h2 : (ab a).isMk = true
      · rw [if_pos h2]
        have e2 : hasFd ab (a :: ffdG ab g) = hasFd ab (ffdG ab g) := by unfold hasFd; rw [List.any_cons, decide_eq_false h]; rfl
        rw [e2]
        exact hasFd_ffd g
      · rw [if_neg h2]
        exact hasFd_ffd g
theorem hasFd_fsp : ∀ g : List α, hasFd ab (fspG ab g) = false
  | [] => rfl
  | a :: g => by
    unfold fspG
    by_cases h : ab a = .sp
    · rw [if_pos h]
      have e2 : hasFd ab (a :: mksG ab g) = hasFd ab (mksG ab g) := by unfold hasFd; rw [List.any_cons, decide_eq_false (by rw [h]; decide)]; rfl
      rw [e2, hasFd_mks]
    · rw [if_neg h]
      by_cases h2 : (ab a).isMk = true
      · rw [if_pos h2]
        have e2 : hasFd ab (a :: fspG ab g) = hasFd ab (fspG ab g) := by unfold hasFd; rw [List.any_cons, decide_eq_false (mk_ne h2).1]; rfl
        rw [e2]
        exact hasFd_fsp g
      · rw [if_neg h2]
        exact hasFd_fsp g
theorem ffdG_idem : ∀ g : List α, ffdG ab (ffdG ab g) = ffdG ab g
  | [] => rfl
  | a :: g => by
    conv => lhs; rw [ffdG]
    conv => rhs; rw [ffdG]
    by_cases h : ab a = .fd
    · rw [if_pos h, ffdG, if_pos h, mksG_idem]
    · rw [if_neg h]
      by_cases h2 : (ab a).isMk = true
      · rw [if_pos h2, ffdG, if_neg h, if_pos h2, ffdG_idem g]
      · rw [if_neg h2]
        exact ffdG_idem g
theorem fspG_idem : ∀ g : List α, fspG ab (fspG ab g) = fspG ab g
  | [] => rfl
  | a :: g => by
    conv => lhs; rw [fspG]
    conv => rhs; rw [fspG]
    by_cases h : ab a = .sp
    · rw [if_pos h, fspG, if_pos h, mksG_idem]
    · rw [if_neg h]
      by_cases h2 : (ab a).isMk = true
      · rw [if_pos h2, fspG, if_neg h, if_pos h2, fspG_idem g]
      · rw [if_neg h2]
        exact fspG_idem g
theorem gpG_idem (l r : Option Nat) (g : List α) : gpG ab l r (gpG ab l r g) = gpG ab l r g := by
  unfold gpG
  by_cases h : l = some 10 ∨ r = some 10
  · simp only [if_pos h, mksG_idem]
  · simp only [if_neg h]
    cases hf : hasFd ab g with
    | true =>
      simp only [if_true]
      cases jn l r with
      | true => simp only [if_true, hasFd_mks, Bool.false_eq_true, if_false, fspG_mks]
      | false => simp only [Bool.false_eq_true, if_false, hasFd_ffd, hf, if_true, ffdG_idem]
    | false => simp only [Bool.false_eq_true, if_false, hasFd_fsp, fspG_idem]
theorem nsG_gp {l r : Option Nat} {g : List α} (h : NsG ab g) : NsG ab (gpG ab l r g) := fun a ha => by
  have := mem_needG (ab := ab) (r0 := r) (as := []) (cur := g) (l := l) (a := a) ha
  exact this.elim (h a) fun z => nomatch z
theorem needG_idem {r0 : Option Nat} : ∀ (n : Nat) (l : Option Nat) (us : List α), us.length ≤ n → needG ab r0 l [] (needG ab r0 l [] us) = needG ab r0 l [] us := by
  intro n
  induction n with
  | zero =>
    intro l us hl
    have : us = [] := List.length_eq_zero_iff.mp (Nat.le_zero.mp hl)
    subst this
    have hn : NsG ab ([] : List α) := fun _ h => nomatch h
    rw [needG_gap hn, needG_gap (nsG_gp hn), gpG_idem]
  | succ n ih =>
    intro l us hl
    rcases segsG ab us with h | ⟨g, a, c, vs, h, e, rfl⟩
    · rw [needG_gap h, needG_gap (nsG_gp h), gpG_idem]
    · rw [needG_so h e, needG_so (nsG_gp h) e, gpG_idem, ih (some c) vs (by simp at hl; omega)]
end
theorem needF_idem {us : List (Tx × Tx)} (h : OneU us) : needF (needF us) = needF us := by
  rw [needF_G (needF_one h), needF_G h]
  exact needG_idem us.length none us (Nat.le_refl _)
theorem formF_need {us : List (Tx × Tx)} (h : OneU us) : formF (needF us) = formF us := by
  unfold formF
  rw [needF_idem h]
theorem needF_sub {us : List (Tx × Tx)} (h : OneU us) : ∀ u ∈ needF us, u ∈ us := fun u hu => by
  rw [needF_G h] at hu
  exact (mem_needG hu).elim (fun z => nomatch z) id
theorem thin_len : ∀ {g : List U}, fdIn g = true → ffd g = g → (mks g).length + 1 = g.length
  | [], h, _ => by cases h
  | u :: g, h, e => by
    cases u with
    | fd =>
      rw [ffd_fd, List.cons.injEq] at e
      rw [mks_fd, e.2]
      rfl
    | sp =>
      exfalso
      have h1 : spIn (ffd (.sp :: g)) = true := by rw [e]; rfl
      rw [spIn_ffd] at h1
      cases h1
    | mk c =>
      rw [ffd_mk, List.cons.injEq] at e
      rw [fdIn_mk] at h
      have := thin_len h e.2
      rw [mks_mk, List.length_cons, List.length_cons]
      omega
    | so c =>
      exfalso
      have : U.so c ∈ ffd (.so c :: g) := by rw [e]; exact List.mem_cons_self
      have := this
      rw [ffd_so] at this
      have key : ∀ g : List U, .so c ∉ ffd g := fun g => by
        induction g with
        | nil => exact fun h => nomatch h
        | cons v g ih =>
          intro hv
          cases v with
          | fd =>
            rw [ffd_fd] at hv
            rcases List.mem_cons.mp hv with z | z
            · cases z
            · exact absurd (List.mem_filter.mp z).2 (by simp [U.isMk])
          | sp => exact ih hv
          | so d => exact ih hv
          | mk d =>
            rw [ffd_mk] at hv
            rcases List.mem_cons.mp hv with z | z
            · cases z
            · exact ih z
      exact key g this
theorem fl_len {c : Nat} {g : List U} (h : fdIn g = true → ffd g = g) : (fl c g).length = g.length := by
  unfold fl
  split
  · rename_i z
    rw [List.length_append]
    exact thin_len z.2 (h z.2)
  · rfl
theorem fe_len {c : Nat} {g : List U} (h : fdIn g = true → ffd g = g) : (fe c g).length = g.length := by
  unfold fe
  split
  · rename_i z
    rw [List.length_cons]
    exact thin_len z.2 (h z.2)
  · rfl
theorem frm_need_len (ws : List U) : (unF (frm ws)).length = (need none none [] ws).length := by
  rcases segs ws with ⟨g, hg, e⟩ | ⟨g, c, vs, hg, e⟩
  · have e2 : need none none [] g = gp none none g := by
      have := need_ns (us := []) (r0 := none) (l := none) hg (cur := [])
      rw [List.append_nil] at this
      exact this
    rw [e, e2, frm_gap hg]
    simp [unF]
  · obtain ⟨m, b, Y, q1, q2, q3, q4, q5, q6⟩ := need_split vs.length c vs (Nat.le_refl _)
    have e2 : need none none [] (g ++ .so c :: vs) = gp none (some c) g ++ .so c :: (m ++ b) := by
      rw [need_ns (us := .so c :: vs) (r0 := none) (l := none) hg (cur := [])]
      show gp none (some c) g ++ .so c :: need none (some c) [] vs = _
      rw [q1]
    have lm : m.length = (rest c [] vs).1.length := by
      have := congrArg List.length q4
      rwa [List.length_map, List.length_map] at this
    rw [e, e2, frm_so hg]
    unfold unF
    show (fl c (gp none (some c) g) ++ .so c :: (rest c [] vs).1 ++ (rest c [] vs).2).length = _
    rw [q5]
    have h1 := fl_len (c := c) (gp_thin none (some c) g)
    have h2 := fe_len (c := lastC c vs) q6
    simp only [List.length_append, List.length_cons]
    omega
theorem formF_needlen {us : List (Tx × Tx)} (h : OneU us) : (unitsForF (formF us)).length = (needF us).length := by
  have e := congrArg List.length (needF_abs h)
  rw [List.length_map] at e
  rw [formF_frm h, toT_len, frm_need_len, e]
theorem form_least {us vs : List (Tx × Tx)} (h : OneU us) (h2 : OneU vs) (e : formF vs = formF us) : (needF us).length ≤ vs.length := by
  rw [← formF_needlen h, ← e]
  exact formF_len h2
/-! what is compared -/
theorem tidy_asc {us : List (Tx × Tx)} (h : UAsc us) : ∀ p ∈ tidyF us, p.1 ∈ MODES ∧ Asc p.2 := by
  have : ∀ (us l : List (Tx × Tx)), UAsc us → (∀ p ∈ l, p.1 ∈ MODES ∧ Asc p.2) → ∀ p ∈ us.foldl tidyStep l, p.1 ∈ MODES ∧ Asc p.2 := by
    intro us
    induction us with
    | nil => exact fun l _ h => h
    | cons u us ih =>
      intro l h hl
      refine ih _ (fun v hv => h v (List.mem_cons_of_mem _ hv)) fun p hp => ?_
      obtain ⟨hm, c, ec, hc⟩ := h u List.mem_cons_self
      have au : Asc u.2 := fun d hd => by
        rw [ec] at hd
        rw [List.mem_singleton.mp hd]; exact hc
      have app : p ∈ l ++ [u] → p.1 ∈ MODES ∧ Asc p.2 := fun hp => (List.mem_append.mp hp).elim (hl p) fun z => by rw [List.mem_singleton.mp z]; exact ⟨hm, au⟩
      unfold tidyStep at hp
      split at hp
      · rename_i q hq
        split at hp
        · rcases List.mem_append.mp hp with z | z
          · exact hl p (List.dropLast_subset l z)
          · have := hl q (List.mem_of_getLast? hq)
            rw [List.mem_singleton.mp z]
            exact ⟨this.1, fun d hd => (List.mem_append.mp hd).elim (this.2 d) (au d)⟩
        · exact app hp
      · exact app hp
  exact this us [] h fun _ h => nomatch h
theorem mode_ok {m : Tx} (h : m ∈ MODES) : okT m = true := by
  have : ∀ m ∈ MODES, okT m = true := by decide
  exact this m h
theorem frs_ok {fr : List (Tx × Tx)} (h : ∀ p ∈ fr, p.1 ∈ MODES ∧ Asc p.2) : EqD.ok fr = true := List.all_eq_true.mpr fun p hp => by
  show (okT p.1 && okT p.2) = true
  rw [mode_ok (h p hp).1, okT_of (h p hp).2]
  rfl
theorem tidy_okD {us : List (Tx × Tx)} (h : UAsc us) : EqD.ok (tidyF us) = true := frs_ok (tidy_asc h)
/-! ### draws, loops that filter -/
theorem fil_loop {β α ρ : Type} {p : α → Bool} {body : Unit → α → M (β × List α) (β × List α) (Fl Unit ρ)} : ∀ (xs acc : List α) (b : β), (∀ x ∈ xs, ∀ (b : β) (acc : List α), acc.length < line → body () x (b, acc) = some (.nx (), (b, if p x = true then acc ++ [x] else acc))) → acc.length + xs.length < line → loopM body xs () (b, acc) = some (.nx (), (b, acc ++ xs.filter p))
  | [], acc, b, _, _ => by rw [List.filter_nil, List.append_nil]; rfl
  | x :: xs, acc, b, h, hl => by
    rw [List.length_cons] at hl
    show bd (body () x) _ (b, acc) = _
    rw [bd_ap (h x List.mem_cons_self b acc (by omega))]
    have := fil_loop xs (if p x = true then acc ++ [x] else acc) b (fun y hy => h y (List.mem_cons_of_mem _ hy)) (by split <;> (try simp only [List.length_append, List.length_singleton]) <;> omega)
    show loopM body xs () _ = _
    rw [this, List.filter_cons]
    by_cases hp : p x = true
    · rw [if_pos hp, if_pos hp]; simp
    · rw [if_neg hp, if_neg hp]
theorem fil_body {β α ρ : Type} {t : Bool} {x : α} {b : β} {acc : List α} (hl : acc.length < line) : (mThen (fun b : β × List α => b) (mIf (pu t) (bd (bd (pu x) (mUpd (fun b : (β × List α) => b.2) (fun (b : (β × List α)) l => (b.1, l)) gApp)) fun _ => pu (.nx ())) (pu (.nx ()))) (fun _ : Unit => pu (.nx ())) : M (β × List α) (β × List α) (Fl Unit ρ)) (b, acc) = some (.nx (), (b, if t = true then acc ++ [x] else acc)) := by
  cases t with
  | false => rfl
  | true =>
    unfold mThen
    rw [bd_ap (x := .nx ()) (b1 := (b, acc ++ [x]))]
    · rfl
    · rw [mIf_pu, if_pos rfl, bd_pu]
      refine (bd_ap (x := ()) (b1 := (b, acc ++ [x])) ?_).trans rfl
      unfold mUpd gApp
      show Option.map _ (if acc.length < line then _ else _) = _
      rw [if_pos hl]
      rfl
theorem UAsc.sub {us vs : List (Tx × Tx)} (h : UAsc us) (s : ∀ u ∈ vs, u ∈ us) : UAsc vs := fun u hu => h u (s u hu)
theorem Tot.mLc {β α γ : Type} {I : β → Prop} {mi : M β β (List α)} {e : α → M β β γ} {R : List α → Prop} {Q : γ → Prop} (hi : Tot I mi R) (hl : ∀ xs, R xs → xs.length ≤ line) (he : ∀ xs, R xs → ∀ x ∈ xs, Tot I (e x) Q) : Tot I (Tw.mLc mi (fun _ => Tw.pu true) e) fun ys => ∃ xs, R xs ∧ ys.length = xs.length ∧ ∀ y ∈ ys, Q y := by
  unfold Tw.mLc
  refine .bd (Tot.mapO (R := fun xs => R xs) hi fun xs hx => ⟨xs, chk_ok (hl xs hx), hx⟩) fun xs hx => ?_
  exact (Tot.map (he xs hx)).imp fun ys h => ⟨xs, hx, h⟩
theorem draw_zoom {n : Int} (h : 0 < n) : Tot BxOk (bd (mCons (pu n) (pu ())) fun x => zoom (fun b : Bx => b) (fun (b : Bx) (c : Bx) => c) (m_law_draw x.1)) fun v => 0 ≤ v ∧ v < n := by
  rw [mCons_pu, bd_pu, zoom_id]
  exact draw_ok h
theorem tidy_len (us : List (Tx × Tx)) : (tidyF us).length ≤ us.length := by
  have : ∀ (us l : List (Tx × Tx)), (us.foldl tidyStep l).length ≤ l.length + us.length := by
    intro us
    induction us with
    | nil => intro l; simp
    | cons u us ih =>
      intro l
      have h := ih (tidyStep l u)
      have h2 : (tidyStep l u).length ≤ l.length + 1 := by
        unfold tidyStep
        split
        · split
          · rw [List.length_append, List.length_dropLast]; show _ + 1 ≤ _; omega
          · rw [List.length_append]; exact Nat.le_refl _
        · rw [List.length_append]; exact Nat.le_refl _
      rw [List.foldl_cons, List.length_cons]
      omega
  have h := this us []
  rw [List.length_nil, Nat.zero_add] at h
  exact h
/-! ### what is shown, by the form -/
theorem rd_sh {g : List U} (h : Ns g) : (rd g).map U.sgn = g.map U.sh := by
  unfold rd
  rw [List.map_map]
  refine List.map_congr_left fun u _ => ?_
  cases u <;> rfl
theorem rest_end : ∀ (n : Nat) (c : Nat) (us : List U), us.length ≤ n → ∃ X, rest c [] (us ++ [.so 10]) = (X ++ [.so 10], []) ∧ X.map U.sgn = (need (some 10) (some c) [] us).map U.sh := by
  have e0 : rest 10 [] [] = ([], []) := by
    rw [rest_gap .nil, gp_left]
    rfl
  have gap : ∀ (c : Nat) (g : List U), Ns g → ∃ X, rest c [] (g ++ [.so 10]) = (X ++ [.so 10], []) ∧ X.map U.sgn = (need (some 10) (some c) [] g).map U.sh := fun c g h => by
    have := needG_gap (ab := fun u : U => u) (r0 := some 10) (l := some c) (g := g) h
    refine ⟨rd (gp (some c) (some 10) g), ?_, ?_⟩
    · rw [rest_so h, e0]
    · rw [rd_sh (ns_gp h)]
      exact congrArg _ this.symm
  intro n
  induction n with
  | zero =>
    intro c us hl
    have : us = [] := List.length_eq_zero_iff.mp (Nat.le_zero.mp hl)
    subst this
    exact gap c [] .nil
  | succ n ih =>
    intro c us hl
    rcases segs us with ⟨g, h, e⟩ | ⟨g, d, vs, h, e⟩
    · rw [e]; exact gap c g h
    · rw [e] at hl
      obtain ⟨X, h1, h2⟩ := ih d vs (by simp at hl; omega)
      have := needG_so (ab := fun u : U => u) (r0 := some 10) (l := some c) (g := g) (vs := vs) (a := .so d) h rfl
      refine ⟨rd (gp (some c) (some d) g) ++ .so d :: X, ?_, ?_⟩
      · rw [e, List.append_assoc, List.cons_append, rest_so h, h1]
        simp
      · rw [e, List.map_append, List.map_cons, rd_sh (ns_gp h), h2]
        show _ = (needG (fun u => u) (some 10) (some c) [] (g ++ .so d :: vs)).map U.sh
        rw [this, List.map_append]
        rfl
/-- alike ones are shown alike -/
theorem sh_of_frm {us vs : List U} (h : frm us = frm vs) : shU us = shU vs := by
  have h2 := frm_in h [.so 10] [.so 10]
  obtain ⟨X, h3, h4⟩ := rest_end us.length 10 us (Nat.le_refl _)
  obtain ⟨Y, h5, h6⟩ := rest_end vs.length 10 vs (Nat.le_refl _)
  have e1 : frm ([.so 10] ++ us ++ [.so 10]) = ⟨fl 10 (gp none (some 10) []), .so 10 :: (X ++ [.so 10]), []⟩ := by
    have := frm_so (g := []) (c := 10) (us := us ++ [.so 10]) .nil
    rw [h3] at this
    exact this
  have e2 : frm ([.so 10] ++ vs ++ [.so 10]) = ⟨fl 10 (gp none (some 10) []), .so 10 :: (Y ++ [.so 10]), []⟩ := by
    have := frm_so (g := []) (c := 10) (us := vs ++ [.so 10]) .nil
    rw [h5] at this
    exact this
  rw [e1, e2, F.mk.injEq, List.cons.injEq] at h2
  have e : X = Y := List.append_cancel_right h2.2.1.2
  unfold shU
  rw [← h4, ← h6, e]
theorem sh_in {us vs : List U} (h : frm us = frm vs) (a b : List U) : shU (a ++ us ++ b) = shU (a ++ vs ++ b) := sh_of_frm (frm_in h a b)
/-! what is shown of a form's units -/
theorem need_rest : ∀ (n : Nat) (c : Nat) (us : List U), us.length ≤ n → ∀ (r : Option Nat) (g vs : List U), Ns g → (∀ x, need r (some x) [] (g ++ vs) = need r (some x) [] (g ++ vs)) → need r (some c) [] ((rest c [] us).1 ++ (g ++ vs)) = (rest c [] us).1 ++ need r (some (lastC c us)) [] (g ++ vs) := by
  have nsl : ∀ (c : Nat) (g : List U), Ns g → lastC c g = c := fun c g => by
    induction g with
    | nil => intro _; rfl
    | cons v g ih =>
      intro h
      have hv := h v List.mem_cons_self
      have := ih fun w hw => h w (List.mem_cons_of_mem _ hw)
      cases v with
      | so d => cases hv
      | sp => exact this
      | fd => exact this
      | mk d => exact this
  intro n
  have gap : ∀ (c : Nat) (g0 : List U), Ns g0 → ∀ (r : Option Nat) (g vs : List U), need r (some c) [] ((rest c [] g0).1 ++ (g ++ vs)) = (rest c [] g0).1 ++ need r (some (lastC c g0)) [] (g ++ vs) := fun c g0 h r g vs => by
    rw [rest_gap h, nsl c g0 h]
    rfl
  induction n with
  | zero =>
    intro c us hl r g vs hg _
    have : us = [] := List.length_eq_zero_iff.mp (Nat.le_zero.mp hl)
    subst this
    exact gap c [] .nil r g vs
  | succ n ih =>
    intro c us hl r g vs hg hh
    rcases segs us with ⟨g0, h, e⟩ | ⟨g0, d, ws, h, e⟩
    · rw [e]; exact gap c g0 h r g vs
    · rw [e] at hl ⊢
      have ihd := ih d ws (by simp at hl; omega) r g vs hg hh
      have key : ∀ (ts : List U), need r (some c) [] (rd (gp (some c) (some d) g0) ++ .so d :: ts) = rd (gp (some c) (some d) g0) ++ .so d :: need r (some d) [] ts := fun ts => by
        have mkSo : ∀ (c d : Nat) (m ts : List U), Mk m → need r (some c) [] (m ++ .so d :: ts) = m ++ .so d :: need r (some d) [] ts := fun c d m ts hm => by
          have hn : Ns m := by rw [← show mks m = m from hm]; exact ns_mks m
          have := needG_so (ab := fun u : U => u) (r0 := r) (l := some c) (g := m) (vs := ts) (a := .so d) hn rfl
          refine this.trans ?_
          rw [show gpG (fun u => u) (some c) (some d) m = m from gp_mks _ _ hm]
        rcases rd_cases c d h with k | ⟨a, b, ha, hb, e⟩
        · exact mkSo c d _ ts k
        · rw [e, List.append_assoc, List.cons_append, mkSo c 32 a _ ha, mkSo 32 d b ts hb, List.append_assoc]
          rfl
      rw [rest_so h, lastC_app, nsl c g0 h, List.append_assoc, List.cons_append, key, ihd, List.append_assoc]
      rfl
/-! ### signs of the mode collapse; the shown text -/
def coll (t : Tx) : List (Tx × Tx) := t.map fun c => (([99, 111, 108, 108, 97, 112, 115, 101] : Tx), [c])
theorem coll_one (t : Tx) : OneU (coll t) := fun u hu => by
  obtain ⟨c, _, rfl⟩ := List.mem_map.mp hu
  exact ⟨c, rfl⟩
theorem coll_asc {t : Tx} (h : Asc t) : UAsc (coll t) := fun u hu => by
  obtain ⟨c, hc, rfl⟩ := List.mem_map.mp hu
  exact ⟨by show ([99, 111, 108, 108, 97, 112, 115, 101] : Tx) ∈ MODES; decide, c, rfl, h c hc⟩
def textS (us : List (Tx × Tx)) : Tx := textF us (sourcesF (some ([101, 110, 100] : Tx)) (us.map kindU))
theorem textS_sh {us : List (Tx × Tx)} (h : OneU us) : textS us = shU (us.map absU) := textF_sh h
theorem textS_form {us vs : List (Tx × Tx)} (h : OneU us) (h2 : OneU vs) (e : formF us = formF vs) : textS us = textS vs := by
  rw [textS_sh h, textS_sh h2]
  exact sh_of_frm ((formF_iff h h2).mp e)
theorem textS_len {us : List (Tx × Tx)} (h : OneU us) : (textS us).length ≤ us.length := by
  unfold textS
  rw [text_len h]
  have := src_len (some ([101, 110, 100] : Tx)) (us.map kindU)
  rw [List.length_map] at this
  exact this
/-! ### drawn parts -/
theorem flat_sig : ∀ ss : List Tx, (∀ s ∈ ss, ∃ d, s = [d] ∧ Sg d) → Asc ss.flatten ∧ ss.flatten.length = ss.length
  | [], _ => ⟨fun _ h => absurd h List.not_mem_nil, rfl⟩
  | s :: ss, h => by
    obtain ⟨d, e, hd⟩ := h s List.mem_cons_self
    obtain ⟨i1, i2⟩ := flat_sig ss fun t ht => h t (List.mem_cons_of_mem _ ht)
    refine ⟨fun c hc => ?_, by rw [List.flatten_cons, List.length_append, i2, e]; show 1 + ss.length = ss.length + 1; omega⟩
    rw [List.flatten_cons] at hc
    rcases List.mem_append.mp hc with z | z
    · rw [e] at z; rw [List.mem_singleton.mp z]; exact hd
    · exact i1 c z
theorem join_draw {w : Tx} {n m : Int} (hw : ∀ d ∈ w, Sg d) (hwl : w.length ≤ 1000) (hn : n ≤ w.length) (hn0 : 0 < n) (hm0 : 0 < m) (hm : m ≤ 1000) : Tot BxOk (mOp gJoin (pu ([] : Tx)) (mCons (Tw.mLc (mMapO gRange1 (mCons (bd (mCons (pu m) (pu ())) fun x => zoom (fun b : Bx => b) (fun (b : Bx) (c : Bx) => c) (m_law_draw x.1)) (pu ()))) (fun x1 : Int => pu true) (fun x1 : Int => mOp gIxS (pu w) (bd (mCons (pu n) (pu ())) fun x => zoom (fun b : Bx => b) (fun (b : Bx) (c : Bx) => c) (m_law_draw x.1)))) (pu ()))) fun t => Asc t ∧ t.length ≤ (m - 1).toNat := by
  have big : 100001 < line := by decide
  have inner := Tot.mLc (I := BxOk) (e := fun x1 : Int => mOp gIxS (pu w) (bd (mCons (pu n) (pu ())) fun x => zoom (fun b : Bx => b) (fun (b : Bx) (c : Bx) => c) (m_law_draw x.1)))
    (Q := fun s => ∃ d, s = [d] ∧ Sg d) (R := fun xs => ∃ v, xs = rangeI 0 v ∧ 0 ≤ v ∧ v < m) (Tot.rangeI' (draw_zoom hm0) (by omega)) (fun xs ⟨v, e, hv⟩ => by rw [e, rangeI_len]; omega) (fun xs hx x hxx => (Tot.ixS (by omega) hn (draw_zoom hn0)).imp fun s ⟨d, hd, e⟩ => ⟨d, e, hw d hd⟩)
  refine .op (A := fun s => s = []) (B := fun z => (∀ s ∈ z.1, ∃ d, s = [d] ∧ Sg d) ∧ z.1.length ≤ (m - 1).toNat) .eq (.one (A := fun ss : List Tx => (∀ s ∈ ss, ∃ d, s = [d] ∧ Sg d) ∧ ss.length ≤ (m - 1).toNat) (inner.imp fun ys ⟨xs, ⟨v, e, hv⟩, hl, hq⟩ => ⟨hq, by rw [hl, e, rangeI_len]; omega⟩)) fun x y hx ⟨h1, h2⟩ => ?_
  obtain ⟨f1, f2⟩ := flat_sig y.1 h1
  refine ⟨y.1.flatten, ?_, f1, by omega⟩
  subst hx
  unfold gJoin
  refine if_pos ⟨rfl, ?_⟩
  rw [sum_len]
  omega
def Part (n : Nat) (fr : List (Tx × Tx)) : Prop := ∃ us, fr = tidyF us ∧ UAsc us ∧ us.length ≤ n
theorem Tot.retM' {I : Bx → Prop} {ρ : Type} {m : M Bx Bx ρ} {Q : ρ → Prop} (h : Tot I m Q) : Tot I (retM (mRet (γ := Unit) m)) Q := fun b i => by
  obtain ⟨x, b', e, i', q⟩ := h b i
  refine ⟨x, b', ?_, i', q⟩
  unfold retM
  rw [bd_ap (x := .rt x) (b1 := b')]
  · rfl
  · unfold mRet
    rw [bd_ap e]
    rfl
theorem part_ok : Tot BxOk m_law_part (Part 24) := by
  have big : 100001 < line := by decide
  unfold m_law_part mb_law_part
  refine Tot.retM' ?_
  simp only [zoom_id]
  refine .bd (.one (lunits_tot (Tot.bd (Tot.one (Tot.eq (x := (7 : Int)))) fun z hz => (by rw [show z.1 = 7 from hz]; exact frag_ok (most := 7) (by decide))) (by decide))) fun z hz => ?_
  have hz : UAsc z.1 ∧ z.1.length ≤ 24 := hz
  rw [ltidy_eq hz.1.one (by omega), zoomU_pu]
  exact .pu ⟨z.1, rfl, hz⟩
def Short (fr : List (Tx × Tx)) : Prop := ∃ m t, fr = [(m, t)] ∧ m ∈ MODES ∧ Asc t ∧ t.length ≤ 3
theorem short_units {fr : List (Tx × Tx)} (h : Short fr) : UAsc (unitsF fr) ∧ (unitsF fr).length ≤ 3 ∧ fr.length = 1 := by
  obtain ⟨m, t, rfl, hm, ht, hl⟩ := h
  rw [unitsF_single]
  refine ⟨fun u hu => ?_, by rw [List.length_map]; exact hl, rfl⟩
  obtain ⟨c, hc, rfl⟩ := List.mem_map.mp hu
  exact ⟨hm, c, rfl, ht c hc⟩
theorem short_ok : Tot BxOk m_law_short_part Short := by
  have big : 100001 < line := by decide
  have c5 : chk [([99, 111, 108, 108, 97, 112, 115, 101] : Tx), ([99, 111, 108, 108, 97, 112, 115, 101] : Tx), ([99, 111, 108, 108, 97, 112, 115, 101] : Tx), ([98, 114, 101, 97, 107, 115] : Tx), ([112, 114, 101, 115, 101, 114, 118, 101] : Tx)] = some [([99, 111, 108, 108, 97, 112, 115, 101] : Tx), ([99, 111, 108, 108, 97, 112, 115, 101] : Tx), ([99, 111, 108, 108, 97, 112, 115, 101] : Tx), ([98, 114, 101, 97, 107, 115] : Tx), ([112, 114, 101, 115, 101, 114, 118, 101] : Tx)] := chk_ok (by decide)
  have md : ∀ m ∈ ([([99, 111, 108, 108, 97, 112, 115, 101] : Tx), ([99, 111, 108, 108, 97, 112, 115, 101] : Tx), ([99, 111, 108, 108, 97, 112, 115, 101] : Tx), ([98, 114, 101, 97, 107, 115] : Tx), ([112, 114, 101, 115, 101, 114, 118, 101] : Tx)] : List Tx), m ∈ MODES := by decide
  have key : Tot BxOk (bd (mOp gJoin (pu ([] : Tx)) ((mCons (Tw.mLc (mMapO gRange1 (mCons (bd (mCons (pu (4 : Int)) (pu ())) fun x => zoom (fun b : Bx => b) (fun (b : Bx) (c : Bx) => c) (m_law_draw x.1)) (pu ()))) (fun x1 : Int => pu true) (fun x1 : Int => mOp gIxS (pu ([32, 32, 10, 10, 124, 94, 60, 65, 97] : Tx)) (bd (mCons (pu (9 : Int)) (pu ())) fun x => zoom (fun b : Bx => b) (fun (b : Bx) (c : Bx) => c) (m_law_draw x.1)))) (pu ())))) fun v_text_2 => mRet (γ := Unit) (mMapO chk (mConsL (mMap pr2 ((mCons (mOp (fun (x : (List Tx)) (i : Int) => atI x i) (mMapO chk (mConsL (pu ([99, 111, 108, 108, 97, 112, 115, 101] : Tx)) (mConsL (pu ([99, 111, 108, 108, 97, 112, 115, 101] : Tx)) (mConsL (pu ([99, 111, 108, 108, 97, 112, 115, 101] : Tx)) (mConsL (pu ([98, 114, 101, 97, 107, 115] : Tx)) (mConsL (pu ([112, 114, 101, 115, 101, 114, 118, 101] : Tx)) (pu ([] : List Tx)))))))) (bd (mCons (pu (5 : Int)) (pu ())) fun x => zoom (fun b : Bx => b) (fun (b : Bx) (c : Bx) => c) (m_law_draw x.1))) (mCons (pu v_text_2) (pu ()))))) (pu ([] : List (Tx × Tx)))))) fun o => ∃ fr, o = .rt fr ∧ Short fr := by
    refine .bd (join_draw (by decide) (by decide) (by decide) (by decide) (by decide) (by decide)) fun t ⟨ht, hl⟩ => ?_
    have hl : t.length ≤ 3 := hl
    unfold mRet
    refine .bd (Q := Short) ?_ fun fr hfr => .pu ⟨fr, rfl, hfr⟩
    refine .mapO (A := Short) ?_ fun fr hfr => ⟨fr, chk_ok (by rw [(short_units hfr).2.2]; omega), hfr⟩
    unfold mConsL
    refine .bd (Q := fun p : Tx × Tx => p.1 ∈ MODES ∧ p.2 = t) ?_ fun p hp => ?_
    · refine Tot.map_ (A := fun z => z.1 ∈ MODES ∧ z.2.1 = t) ?_ fun z hz => hz
      refine .cons (A := fun m => m ∈ MODES) (B := fun z => z.1 = t) ?_ (.one .eq) fun x y h1 h2 => ⟨h1, h2⟩
      simp only [bd_pu, mMapO_pu]
      rw [c5, ov_get]
      exact (Tot.ixL (n := 5) (by decide) (draw_zoom (by decide))).imp fun m hm => md m hm
    · rw [bd_pu]
      exact .pu ⟨p.1, t, by rw [← hp.2], hp.1, ht, hl⟩
  intro b i
  obtain ⟨o, b', e, i', fr, rfl, q⟩ := key b i
  refine ⟨fr, b', ?_, i', q⟩
  unfold m_law_short_part mb_law_short_part retM
  rw [bd_ap e]
  rfl
theorem unitsFor_asc {us : List (Tx × Tx)} (h : UAsc us) : UAsc (unitsForF (formF us)) := by
  obtain ⟨h1, h2, h3⟩ := form_asc h
  rw [unitsForF_app]
  refine ((coll_asc h1).app fun u hu => ?_).app (coll_asc h3)
  obtain ⟨c, hc, rfl⟩ := List.mem_map.mp hu
  exact ⟨by show ([112, 114, 101, 115, 101, 114, 118, 101] : Tx) ∈ MODES; decide, c, rfl, h2 c hc⟩
theorem need_asc {us : List (Tx × Tx)} (h : UAsc us) : UAsc (needF us) := fun u hu => h u (needF_sub h.one u hu)
theorem unitsF_app3 (a b c : List (Tx × Tx)) : unitsF (a ++ b ++ c) = unitsF a ++ unitsF b ++ unitsF c := by rw [unitsF_app, unitsF_app]
/-! ### things: signs and forms -/
theorem isa_str (t : Tx) : gIsa "str" (.str t) = some true := by show kitB "str" "str" = some true; decide +kernel
theorem isa_tup (xs : List Th) : gIsa "tuple" (.tup xs) = some true := by show kitB "tuple" "tuple" = some true; decide +kernel
def sgB (c : Nat) : Bool := decide (([c] : Tx) = [10]) || (!decide (([c] : Tx) < [32]) && !decide (([126] : Tx) < [c]))
theorem sgB_ok {c : Nat} (h : Sg c) : sgB c = true := by
  unfold sgB
  obtain ⟨h1, h2⟩ := h
  rcases h2 with rfl | h2
  · rfl
  · have a : ¬ (([c] : Tx) < [32]) := by
      rw [List.cons_lt_cons_iff]
      rintro (z | ⟨_, z⟩)
      · omega
      · exact absurd z (by decide)
    have b : ¬ (([126] : Tx) < [c]) := by
      rw [List.cons_lt_cons_iff]
      rintro (z | ⟨_, z⟩)
      · omega
      · exact absurd z (by decide)
    rw [decide_eq_false a, decide_eq_false b]
    simp
end My

namespace My
open PySem L2 Tw
/-! ### common to streams and documents -/
theorem atI_end {α : Type} {l : List α} {x : α} : atI (l ++ [x]) (-1) = some x := by
  unfold atI ixN
  rw [if_neg (by omega), if_pos (by rw [List.length_append, List.length_singleton]; omega)]
  show (l ++ [x])[((-1 : Int) + ((l ++ [x]).length : Int)).toNat]? = _
  rw [show ((-1 : Int) + ((l ++ [x]).length : Int)).toNat = l.length by rw [List.length_append, List.length_singleton]; omega]
  simp
def shT (us : List (Tx × Tx)) : Tx := textF us (sourcesF (some ([101, 110, 100] : Tx)) (us.map kindU))
theorem shT_le {us : List (Tx × Tx)} (h : OneU us) : (shT us).length ≤ us.length := by
  unfold shT
  rw [text_len h]
  have := src_len (some ([101, 110, 100] : Tx)) (us.map kindU)
  rwa [List.length_map] at this
/-! ### documents: places and offsets -/
def srT (us : List (Tx × Tx)) : List Int := sourcesF (some ([101, 110, 100] : Tx)) (us.map kindU)
theorem shT_len {us : List (Tx × Tx)} (h : OneU us) : (shT us).length = (srT us).length := text_len h _
theorem srT_len (us : List (Tx × Tx)) : (srT us).length ≤ us.length := by
  unfold srT
  have := src_len (some ([101, 110, 100] : Tx)) (us.map kindU)
  rwa [List.length_map] at this
def cnt (src : List Int) (p : Int) : Nat := (src.filter fun k => decide (k < p)).length
theorem cnt_le (src : List Int) (p : Int) : cnt src p ≤ src.length := List.length_filter_le ..
theorem cnt_at {src : List Int} (h : src.Pairwise (· < ·)) (p : Int) : ∀ i (hi : i < src.length), (src[i]'hi < p ↔ i < cnt src p) := by
  induction src with
  | nil => intro i hi; cases hi
  | cons x xs ih =>
    rw [List.pairwise_cons] at h
    intro i hi
    by_cases hx : x < p
    · have e : cnt (x :: xs) p = cnt xs p + 1 := by
        unfold cnt
        rw [List.filter_cons_of_pos (by simpa using hx)]
        rfl
      cases i with
      | zero => simp only [List.getElem_cons_zero, e]; omega
      | succ i =>
        have := ih h.2 i (by simpa using hi)
        simp only [List.getElem_cons_succ, e]
        omega
    · have e : cnt (x :: xs) p = 0 := by
        unfold cnt
        rw [List.length_eq_zero_iff, List.filter_eq_nil_iff]
        intro a ha
        rcases List.mem_cons.mp ha with rfl | ha
        · simpa using hx
        · have := h.1 a ha
          simp only [decide_eq_true_eq]
          omega
      cases i with
      | zero => simp only [List.getElem_cons_zero, e]; omega
      | succ i =>
        have := h.1 (xs[i]'(by simpa using hi)) (List.getElem_mem _)
        simp only [List.getElem_cons_succ, e]
        omega
theorem rangeI_pw (n : Nat) : (rangeI 0 (n : Int)).Pairwise (· < ·) := by
  unfold rangeI
  rw [List.pairwise_map]
  exact List.Pairwise.imp (fun h => by omega) (List.pairwise_lt_range (n := ((n : Int) - 0).toNat))
theorem srT_pw (us : List (Tx × Tx)) : (srT us).Pairwise (· < ·) := by
  unfold srT sourcesF
  refine List.Pairwise.sublist (List.Sublist.map _ (List.filter_sublist ..)) ?_
  rw [enum_fst]
  exact rangeI_pw _
theorem srT_in {us : List (Tx × Tx)} {k : Int} (h : k ∈ srT us) : 0 ≤ k ∧ k < us.length := by
  obtain ⟨x, hx, rfl⟩ := List.mem_map.mp h
  have : x.1 ∈ rangeI 0 ((us.map kindU).length : Int) := by rw [← enum_fst]; exact List.mem_map_of_mem (List.mem_filter.mp hx).1
  rw [List.length_map] at this
  exact mem_rangeI this
def loS (src : List Int) (o : Nat) : Int := if o = 0 then 0 else (src[o - 1]?).getD 0 + 1
def hiS (src : List Int) (n o : Nat) : Int := (src[o]?).getD n
theorem lo_hi {src : List Int} {n o : Nat} (hs : src.Pairwise (· < ·)) (hb : ∀ k ∈ src, 0 ≤ k ∧ k < n) (ho : o ≤ src.length) : 0 ≤ loS src o ∧ loS src o ≤ hiS src n o ∧ hiS src n o ≤ n ∧ ∀ p : Int, 0 ≤ p → p ≤ n → (cnt src p = o ↔ loS src o ≤ p ∧ p ≤ hiS src n o) := by
  have at_ : ∀ i (hi : i < src.length), src[i]? = some (src[i]'hi) := fun i hi => List.getElem?_eq_getElem hi
  have inn : ∀ i (hi : i < src.length), 0 ≤ src[i]'hi ∧ src[i]'hi < n := fun i hi => hb _ (List.getElem_mem _)
  have asc : ∀ i j (hi : i < src.length) (hj : j < src.length), i < j → src[i]'hi < src[j]'hj := fun i j hi hj hij => List.pairwise_iff_getElem.mp hs i j hi hj hij
  unfold loS hiS
  have key : ∀ p : Int, (o < src.length → ∀ h : o < src.length, (src[o]'h < p ↔ o < cnt src p)) ∧ (0 < o → ∀ h : o - 1 < src.length, (src[o - 1]'h < p ↔ o - 1 < cnt src p)) := fun p => ⟨fun _ h => cnt_at hs p o h, fun _ h => cnt_at hs p (o - 1) h⟩
  rcases Nat.lt_or_ge o src.length with h1 | h1
  · rw [at_ o h1]
    have b1 := inn o h1
    by_cases h0 : o = 0
    · rw [if_pos h0]
      refine ⟨Int.le_refl _, b1.1, by show src[o] ≤ _; omega, fun p hp hn => ?_⟩
      have := (key p).1 h1 h1
      show _ ↔ _ ∧ p ≤ src[o]
      omega
    · rw [if_neg h0]
      have h2 : o - 1 < src.length := by omega
      rw [at_ (o - 1) h2]
      have b2 := inn (o - 1) h2
      have b3 := asc (o - 1) o h2 h1 (by omega)
      refine ⟨by show 0 ≤ src[o - 1] + 1; omega, by show src[o - 1] + 1 ≤ src[o]; omega, by show src[o] ≤ _; omega, fun p hp hn => ?_⟩
      have k1 := (key p).1 h1 h1
      have k2 := (key p).2 (by omega) h2
      show _ ↔ src[o - 1] + 1 ≤ p ∧ p ≤ src[o]
      omega
  · have ho : o = src.length := by omega
    have e : src[o]? = none := List.getElem?_eq_none (by omega)
    rw [e]
    have cl := cnt_le src
    by_cases h0 : o = 0
    · rw [if_pos h0]
      refine ⟨Int.le_refl _, by show (0 : Int) ≤ n; omega, Int.le_refl _, fun p hp hn => ?_⟩
      have := cl p
      show _ ↔ _ ∧ p ≤ (n : Int)
      omega
    · rw [if_neg h0]
      have h2 : o - 1 < src.length := by omega
      rw [at_ (o - 1) h2]
      have b2 := inn (o - 1) h2
      refine ⟨by show 0 ≤ src[o - 1] + 1; omega, by show src[o - 1] + 1 ≤ (n : Int); omega, Int.le_refl _, fun p hp hn => ?_⟩
      have k2 := (key p).2 (by omega) h2
      have := cl p
      show _ ↔ src[o - 1] + 1 ≤ p ∧ p ≤ (n : Int)
      omega
theorem rangeI_app {a b c : Int} (h : a ≤ b) (h2 : b ≤ c) : rangeI a c = rangeI a b ++ rangeI b c := by
  unfold rangeI
  obtain ⟨s, rfl⟩ : ∃ s : Nat, b = a + s := ⟨(b - a).toNat, by omega⟩
  obtain ⟨t, rfl⟩ : ∃ t : Nat, c = a + s + t := ⟨(c - (a + s)).toNat, by omega⟩
  rw [show (a + (s : Int) + (t : Int) - a).toNat = s + t by omega, show (a + (s : Int) - a).toNat = s by omega, show (a + (s : Int) + (t : Int) - (a + (s : Int))).toNat = t by omega, List.range_add, List.map_append, List.map_map]
  congr 1
  refine List.map_congr_left fun k _ => ?_
  show a + ((s + k : Nat) : Int) = a + (s : Int) + (k : Int)
  omega
theorem range_fil {lo hi n : Int} {p : Int → Bool} (h0 : 0 ≤ lo) (h1 : lo ≤ hi) (h2 : hi ≤ n) (hp : ∀ x, 0 ≤ x → x ≤ n → (p x = true ↔ lo ≤ x ∧ x ≤ hi)) : (rangeI 0 (n + 1)).filter p = rangeI lo (hi + 1) := by
  rw [rangeI_app (a := 0) (b := lo) (c := n + 1) h0 (by omega), rangeI_app (a := lo) (b := hi + 1) (c := n + 1) (by omega) (by omega), List.filter_append, List.filter_append]
  rw [List.filter_eq_nil_iff.mpr fun x hx => ?_, List.filter_eq_self.mpr fun x hx => ?_, List.filter_eq_nil_iff.mpr fun x hx => ?_, List.nil_append, List.append_nil]
  · have := mem_rangeI hx
    rw [hp x (by omega) (by omega)]
    omega
  · have := mem_rangeI hx
    rw [hp x (by omega) (by omega)]
    omega
  · have := mem_rangeI hx
    rw [hp x (by omega) (by omega)]
    omega
theorem atI_last {α : Type} {l : List α} (h : 0 < l.length) : atI l (-1) = l[l.length - 1]? := by
  unfold atI ixN
  rw [if_neg (by omega), if_pos (by omega)]
  show l[((-1 : Int) + (l.length : Int)).toNat]? = _
  rw [show ((-1 : Int) + (l.length : Int)).toNat = l.length - 1 by omega]
theorem range_ends {lo hi : Int} (h : lo ≤ hi) : atI (rangeI lo (hi + 1)) (0 : Int) = some lo ∧ atI (rangeI lo (hi + 1)) (-1) = some hi := by
  have hl : (rangeI lo (hi + 1)).length = (hi - lo).toNat + 1 := by rw [rangeI_len]; omega
  have at_ : ∀ k : Nat, k < (rangeI lo (hi + 1)).length → (rangeI lo (hi + 1))[k]? = some (lo + k) := fun k hk => by
    unfold rangeI at hk ⊢
    rw [List.getElem?_map, List.getElem?_range (by simpa using hk)]
    rfl
  refine ⟨?_, ?_⟩
  · refine (atI_of (xs := rangeI lo (hi + 1)) (i := 0) (k := 0) rfl).trans ?_
    rw [at_ 0 (by omega)]
    simp
  · rw [atI_last (by omega), at_ _ (by omega), hl]
    congr 1
    omega
/-! the mirrors -/
abbrev DSt (now : List (Tx × Tx)) (ea un : List (List (Tx × Tx))) : St_Document := (now, ea, un, ())
def outside : Tx := [111, 117, 116, 115, 105, 100, 101]
section
variable {now : List (Tx × Tx)} {ea un : List (List (Tx × Tx))}
theorem dinit_eq {fr : List (Tx × Tx)} (h : (unitsF fr).length ≤ 100000) : m_Document___init fr () = some (DSt (unitsF fr) [] [], ()) := by
  have big : 100001 < line := by decide
  have u := units_eq (fr := fr) (by omega)
  unfold m_Document___init
  simp [bd, mCons, mMapO, pu, ov, chk, zoom, u]
theorem dtext_eq (h : OneU now) (hl : now.length ≤ 100000) : m_Document_text (DSt now ea un) = some (shT now, DSt now ea un) := by
  have s := shownU_eq h hl
  unfold m_Document_text mb_Document_text shT
  simp [retM, bd, mCons, mOp, mRet, zoom, pu, ov, gK, s]
theorem dcontent_eq (h : OneU now) (hl : now.length ≤ 100000) : m_Document_content (DSt now ea un) = some (tidyF now, DSt now ea un) := by
  have c := tidy_eq h hl
  unfold m_Document_content mb_Document_content
  simp [retM, bd, mCons, mRet, zoom, pu, c]
theorem require_eq {s e : Int} : m_Document__require s e (DSt now ea un) = some (if e < s ∨ (now.length : Int) < e then .er outside else .ok (), DSt now ea un) := by
  unfold m_Document__require mb_Document__require outside
  by_cases h1 : e < s
  · simp [retEU, bd, mIf, mOr, mOp, mMapO, mCons, pu, ov, gB, h1]
  · by_cases h2 : (now.length : Int) < e
    · simp [retEU, bd, mIf, mOr, mOp, mMapO, mCons, pu, ov, gB, h1, h2]
    · simp [retEU, bd, mIf, mOr, mOp, mMapO, mCons, pu, ov, gB, h1, h2]
theorem mLc_ap {β α γ : Type} {mi : M β β (List α)} {t : α → M β β Bool} {e : α → M β β γ} {p : α → Bool} {g : α → γ} {b b' : β} {xs : List α} (h : mi b = some (xs, b')) (hl : xs.length ≤ line) (ht : ∀ x ∈ xs, t x = pu (p x)) (he : ∀ x ∈ xs, e x = pu (g x)) : mLc mi t e b = some ((xs.filter p).map g, b') := by
  unfold mLc mMapO
  rw [bd_ap (x := xs) (b1 := b'), compM_pure ht fun x hx _ => he x hx]
  · rfl
  · rw [bd_ap h, chk_ok hl]
    rfl
theorem retE_ap {β γ ρ : Type} {m : M β β (Fl γ (Res ρ))} {b b' : β} {r : Res ρ} (h : m b = some (.rt r, b')) : retE m b = some (r, b') := by
  unfold retE
  rw [bd_ap h]
  rfl
theorem mErr_ok {β α γ γ' ρ : Type} {m : M β β (Res α)} {k : α → M β β (Fl γ (Res ρ))} {b b' : β} {x : α} (h : m b = some (.ok x, b')) : mErr (γ' := γ') m k b = k x b' := by
  unfold mErr
  rw [bd_ap h]
theorem mErr_er {β α γ γ' ρ : Type} {m : M β β (Res α)} {k : α → M β β (Fl γ (Res ρ))} {b b' : β} {w : Tx} (h : m b = some (.er w, b')) : mErr (γ' := γ') m k b = some (.rt (.er w), b') := by
  unfold mErr
  rw [bd_ap h]
  rfl
theorem mOk_ap {β γ ρ : Type} {m : M β β (Fl γ ρ)} {b b' : β} {o : Fl γ ρ} (h : m b = some (o, b')) : mOk m b = some (flOk o, b') := by
  unfold mOk
  rw [bd_ap h]
  rfl
theorem mRet_ap {β γ ρ : Type} {m : M β β ρ} {b b' : β} {x : ρ} (h : m b = some (x, b')) : mRet (γ := γ) m b = some (.rt x, b') := by
  unfold mRet
  rw [bd_ap h]
  rfl
theorem mMapO_ap {β α γ : Type} {g : α → Option γ} {m : M β β α} {b b' : β} {x : α} {y : γ} (h : m b = some (x, b')) (hg : g x = some y) : mMapO g m b = some (y, b') := by
  unfold mMapO
  rw [bd_ap h, hg]
  rfl
theorem mOne_ap {β α : Type} {m : M β β α} {b b' : β} {x : α} (h : m b = some (x, b')) : mCons m (pu ()) b = some ((x, ()), b') := by
  unfold mCons
  rw [bd_ap h]
  rfl
theorem srcs_ap (h : OneU now) (hl : now.length ≤ 100000) : mOp (fun (x : (Tx × (List Int))) (i : Int) => gK x.2 1 i) (bd (mCons ((fun b : St_Document => some (((fun b : St_Document => b) b).1, b))) (pu ())) fun x => zoom (fun _ => ()) (fun b _ => b) (m_shown_units x.1)) (pu (1 : Int)) (DSt now ea un) = some (srT now, DSt now ea un) := by
  have s := shownU_eq h hl
  unfold srT
  simp [mOp, bd, mCons, pu, zoom, s, gK, ov]
end

end My

namespace My
open PySem L2 Tw
/-! ### the longest common beginning -/
def lcp : Tx → Tx → Nat
  | a :: x, b :: y => if a = b then lcp x y + 1 else 0
  | _, _ => 0
theorem lcp_le : ∀ x y : Tx, lcp x y ≤ x.length ∧ lcp x y ≤ y.length
  | [], y => by simp [lcp]
  | a :: x, [] => by simp [lcp]
  | a :: x, b :: y => by
    have := lcp_le x y
    unfold lcp
    split
    · simp only [List.length_cons]; omega
    · simp
theorem lcp_take : ∀ x y : Tx, x.take (lcp x y) = y.take (lcp x y)
  | [], y => by simp [lcp]
  | a :: x, [] => by simp [lcp]
  | a :: x, b :: y => by
    unfold lcp
    split
    · rename_i h
      subst h
      rw [List.take_succ_cons, List.take_succ_cons, lcp_take x y]
    · rfl
theorem lcp_max : ∀ (x y : Tx) (n : Nat), n ≤ x.length → n ≤ y.length → x.take n = y.take n → n ≤ lcp x y
  | _, _, 0, _, _, _ => Nat.zero_le _
  | [], _, n + 1, h, _, _ => by simp at h
  | a :: x, [], n + 1, _, h, _ => by simp at h
  | a :: x, b :: y, n + 1, h1, h2, h3 => by
    rw [List.take_succ_cons, List.take_succ_cons] at h3
    injection h3 with h4 h5
    unfold lcp
    rw [if_pos h4]
    have := lcp_max x y n (by simpa using h1) (by simpa using h2) h5
    omega
theorem lcp_at : ∀ (x y : Tx) (n : Nat), n ≤ lcp x y → (n < lcp x y ↔ (∃ a, x[n]? = some a ∧ y[n]? = some a))
  | [], y, n, h => by simp [lcp]
  | a :: x, [], n, h => by simp [lcp]
  | a :: x, b :: y, 0, h => by
    unfold lcp
    by_cases e : a = b
    · simp [e]
    · simp [e]
      exact fun h => e h.symm
  | a :: x, b :: y, n + 1, h => by
    unfold lcp at h ⊢
    by_cases e : a = b
    · rw [if_pos e] at h ⊢
      have := lcp_at x y n (by omega)
      simp only [List.getElem?_cons_succ]
      rw [← this]
      omega
    · rw [if_neg e] at h
      omega
/-! ### the signs at a place -/
theorem lenT_ok {x : Tx} (h : x.length ≤ line) : gLenT (x, ()) = some (x.length : Int) := if_pos h
/-! ### _common -/
theorem common_loop {x y : Tx} (hx : x.length ≤ line) (hy : y.length ≤ line) : ∀ (n k : Nat), k ≤ lcp x y → x.length < n + k →
    whileM (ρ := Int) (β := Unit) (fun c2 : Int => mAnd (mOp (gB fun i j => decide (i < j)) (pu c2) (mMapO gMin2 ((mCons (mMapO gLenT ((mCons (pu x) (pu ())))) (mCons (mMapO gLenT ((mCons (pu y) (pu ())))) (pu ())))))) (mOp gEqS (mOp gIxS (pu x) (pu c2)) (mOp gIxS (pu y) (pu c2)))) (fun c2 : Int => bd (bd (pu (1 : Int)) fun y => ov (gI (· + ·) c2 y)) fun v_count_3 => pu (.nx v_count_3)) n (k : Int) = pu (.nx (lcp x y : Int))
  | 0, k, h1, h2 => by
    have := (lcp_le x y).1
    omega
  | n + 1, k, h1, h2 => by
    have l1 := lcp_le x y
    unfold whileM
    have e1 : mOp (β := Unit) (gB fun i j => decide (i < j)) (pu (k : Int)) (mMapO gMin2 ((mCons (mMapO gLenT ((mCons (pu x) (pu ())))) (mCons (mMapO gLenT ((mCons (pu y) (pu ())))) (pu ()))))) = pu (decide (k < min x.length y.length)) := by
      simp only [mOp, mMapO, mCons, bd_pu, lenT_ok hx, lenT_ok hy, ov_get, gMin2, gB]
      congr 1
      by_cases h : (y.length : Int) < x.length
      · rw [if_pos h]; apply decide_eq_decide.mpr; omega
      · rw [if_neg h]; apply decide_eq_decide.mpr; omega
    by_cases hk : k < min x.length y.length
    · have g1 : x[k]? = some x[k] := List.getElem?_eq_getElem (by omega)
      have g2 : y[k]? = some y[k] := List.getElem?_eq_getElem (by omega)
      have e2 : mOp (β := Unit) gEqS (mOp gIxS (pu x) (pu (k : Int))) (mOp gIxS (pu y) (pu (k : Int))) = pu (decide (k < lcp x y)) := by
        simp only [mOp, bd_pu, ixS_at hx rfl g1, ixS_at hy rfl g2, ov_get, gEqS_tx]
        congr 1
        apply decide_eq_decide.mpr
        rw [lcp_at x y k h1, g1, g2]
        simp
        exact eq_comm
      simp only [mAnd, e1, e2, bd_pu, hk, decide_true, if_true]
      by_cases hlt : k < lcp x y
      · simp only [hlt, decide_true, if_true, bd_pu, gI, ov_get]
        have := common_loop hx hy n (k + 1) hlt (by omega)
        rw [← this]
        rfl
      · have : k = lcp x y := by omega
        simp only [hlt, decide_false, Bool.false_eq_true, if_false]
        rw [this]
    · have : k = lcp x y := by
        have := lcp_at x y k h1
        omega
      simp only [mAnd, e1, bd_pu, hk, decide_false, Bool.false_eq_true, if_false]
      rw [this]
theorem pcommon_eq {x y : Tx} (hx : x.length ≤ line) (hy : y.length ≤ line) : m_common x y = pu (lcp x y : Int) := by
  unfold m_common mb_common
  rw [bd_pu, show (0 : Int) = ((0 : Nat) : Int) from rfl, common_loop hx hy (x.length + 1) 0 (Nat.zero_le _) (by omega)]
  rfl
/-! ### change, changed -/
def lcs (x y : Tx) : Nat := lcp x.reverse y.reverse
def chg (x y : Tx) : Option (T3 Int Int Tx) :=
  if x = y then none else
    let p := lcp x y
    let q := lcs (x.drop p) (y.drop p)
    some ⟨p, (x.length : Int) - p - q, (y.take (y.length - q)).drop p⟩
theorem lcs_le (x y : Tx) : lcs x y ≤ x.length ∧ lcs x y ≤ y.length := by
  have := lcp_le x.reverse y.reverse
  unfold lcs
  simpa using this
theorem gCut_ok {x : Tx} (h : x.length ≤ line) (lo hi : Option Int) : gCut x lo hi = some (cut x lo hi) := if_pos h
theorem gRevS_ok {x : Tx} (h : x.length ≤ line) : gRevS x = some x.reverse := if_pos h
theorem change_eq {x y : Tx} (hx : x.length ≤ line) (hy : y.length ≤ line) : m_change x y = pu (chg x y) := by
  have l1 := lcp_le x y
  unfold m_change mb_change
  by_cases e : x = y
  · simp [chg, e]
  · have l2 := lcs_le (x.drop (lcp x y)) (y.drop (lcp x y))
    simp only [List.length_drop] at l2
    have c1 : cut x (some (lcp x y : Int)) none = x.drop (lcp x y) := by rw [cut_from (by omega)]; simp
    have c2 : cut y (some (lcp x y : Int)) none = y.drop (lcp x y) := by rw [cut_from (by omega)]; simp
    have d1 : (x.drop (lcp x y)).length ≤ line := by rw [List.length_drop]; omega
    have d2 : (y.drop (lcp x y)).length ≤ line := by rw [List.length_drop]; omega
    have e3 : m_common (x.drop (lcp x y)).reverse (y.drop (lcp x y)).reverse = pu (lcs (x.drop (lcp x y)) (y.drop (lcp x y)) : Int) := pcommon_eq (by simpa using d1) (by simpa using d2)
    have c3 : cut y (some (lcp x y : Int)) (some ((y.length : Int) - (lcs (x.drop (lcp x y)) (y.drop (lcp x y)) : Int))) = (y.take (y.length - lcs (x.drop (lcp x y)) (y.drop (lcp x y)))).drop (lcp x y) := by
      rw [cut_mid (by omega) (by omega)]
      simp only [Int.toNat_natCast]
      congr 2
      omega
    simp [chg, e, pcommon_eq hx hy, zoom_pu, gCut_ok hx, gCut_ok hy, c1, c2, c3, gRevS_ok d1, gRevS_ok d2, e3, lenT_ok hx, lenT_ok hy, pr3]
theorem lcs_drop (x y : Tx) : x.drop (x.length - lcs x y) = y.drop (y.length - lcs x y) := by
  have h := lcp_take x.reverse y.reverse
  have l := lcs_le x y
  unfold lcs at l ⊢
  rw [List.take_reverse, List.take_reverse] at h
  exact List.reverse_inj.mp h
theorem chg_back {x y : Tx} : match chg x y with | none => x = y | some t => 0 ≤ t.a ∧ 0 ≤ t.b ∧ x.take t.a.toNat ++ t.c ++ x.drop (t.a + t.b).toNat = y ∧ t.a.toNat ≤ x.length ∧ t.c.length ≤ y.length := by
  unfold chg
  by_cases e : x = y
  · rw [if_pos e]; exact e
  · rw [if_neg e]
    have l1 := lcp_le x y
    have l2 := lcs_le (x.drop (lcp x y)) (y.drop (lcp x y))
    have h1 := lcp_take x y
    have h2 := lcs_drop (x.drop (lcp x y)) (y.drop (lcp x y))
    simp only [List.length_drop, List.drop_drop] at l2 h2
    show (0 : Int) ≤ (lcp x y : Int) ∧ 0 ≤ (x.length : Int) - (lcp x y : Int) - (lcs (x.drop (lcp x y)) (y.drop (lcp x y)) : Int) ∧ x.take (lcp x y : Int).toNat ++ (y.take (y.length - lcs (x.drop (lcp x y)) (y.drop (lcp x y)))).drop (lcp x y) ++ x.drop ((lcp x y : Int) + ((x.length : Int) - (lcp x y : Int) - (lcs (x.drop (lcp x y)) (y.drop (lcp x y)) : Int))).toNat = y ∧ (lcp x y : Int).toNat ≤ x.length ∧ ((y.take (y.length - lcs (x.drop (lcp x y)) (y.drop (lcp x y)))).drop (lcp x y)).length ≤ y.length
    generalize lcs (x.drop (lcp x y)) (y.drop (lcp x y)) = q at l2 h2 ⊢
    generalize lcp x y = p at l1 h1 l2 h2 ⊢
    refine ⟨by omega, by omega, ?_, by omega, by simp; omega⟩
    have e1 : ((p : Int) + ((x.length : Int) - p - q)).toNat = p + (x.length - p - q) := by omega
    rw [e1, h2, Int.toNat_natCast, h1]
    have e2 : p + (y.length - p - q) = y.length - q := by omega
    rw [e2]
    have e3 : y.take p = (y.take (y.length - q)).take p := by rw [List.take_take, Nat.min_eq_left (by omega)]
    rw [e3, List.take_append_drop, List.take_append_drop]
def app (x : Tx) : Option (T3 Int Int Tx) → Tx
  | none => x
  | some u => x.take u.a.toNat ++ u.c ++ x.drop (u.a + u.b).toNat
theorem changed_eq {x : Tx} {t : Option (T3 Int Int Tx)} (hx : x.length ≤ line) (h : ∀ u, t = some u → 0 ≤ u.a ∧ 0 ≤ u.b ∧ x.length + u.c.length ≤ line ∧ (x.take u.a.toNat ++ u.c ++ x.drop (u.a + u.b).toNat).length ≤ line) :
    m_changed x t = pu (app x t) := by
  unfold m_changed mb_changed
  cases t with
  | none => rfl
  | some u =>
    obtain ⟨h1, h2, h3, h4⟩ := h u rfl
    have c1 : cut x none (some u.a) = x.take u.a.toNat := cut_to h1
    have c2 : cut x (some (u.a + u.b)) none = x.drop (u.a + u.b).toNat := cut_from (by omega)
    have g1 : gCat (x.take u.a.toNat) u.c = some (x.take u.a.toNat ++ u.c) := gCat_ok (by
      have : (x.take u.a.toNat).length ≤ x.length := by simp; omega
      omega)
    have g2 : gCat (x.take u.a.toNat ++ u.c) (x.drop (u.a + u.b).toNat) = some (x.take u.a.toNat ++ u.c ++ x.drop (u.a + u.b).toNat) := gCat_ok (by rw [← List.length_append]; exact h4)
    simp [gCut_ok hx, c1, c2, g1, g2, app]
/-! ### documents: edits -/
def tooLong : Tx := [116, 111, 111, 32, 108, 111, 110, 103]
def noUndo : Tx := [110, 111, 116, 104, 105, 110, 103, 32, 116, 111, 32, 117, 110, 100, 111]
def noRedo : Tx := [110, 111, 116, 104, 105, 110, 103, 32, 116, 111, 32, 114, 101, 100, 111]
/-- the latest hundred -/
def keepL {α : Type} (l : List α) : List α := l.drop (l.length - 100)
theorem keepL_len {α : Type} (l : List α) : (keepL l).length ≤ 100 := by
  unfold keepL
  rw [List.length_drop]
  omega
theorem cut_m100 {α : Type} (l : List α) : cut l (some (-100 : Int)) none = keepL l := by
  unfold cut keepL
  have e1 : HT.sIx l.length 0 (some (-100 : Int)) = l.length - 100 := by
    show (if (-100 : Int) < 0 then ((-100 : Int) + (l.length : Int)).toNat else min (-100 : Int).toNat l.length) = _
    rw [if_pos (by decide)]
    omega
  rw [e1, HT.sIx_none, List.take_of_length_le]
  rw [List.length_drop]
  omega
theorem cut_m1 {α : Type} (l : List α) : cut l none (some (-1 : Int)) = l.dropLast := by
  unfold cut
  have e1 : HT.sIx l.length l.length (some (-1 : Int)) = l.length - 1 := by
    show (if (-1 : Int) < 0 then ((-1 : Int) + (l.length : Int)).toNat else min (-1 : Int).toNat l.length) = _
    rw [if_pos (by decide)]
    omega
  rw [e1, HT.sIx_none, List.drop_zero, Nat.sub_zero, List.dropLast_eq_take]
section
variable {now : List (Tx × Tx)} {ea un : List (List (Tx × Tx))}
theorem dlength_eq : m_Document_length (DSt now ea un) = some ((now.length : Int), DSt now ea un) := by
  unfold m_Document_length mb_Document_length
  simp [retM, bd, mMapO, mCons, mRet, pu, ov]
theorem turn_eq {fresh : List (Tx × Tx)} (h : OneU now) (hl : now.length ≤ 100000) (h2 : OneU fresh) (hl2 : fresh.length ≤ 100000) : m_Document__turn fresh (DSt now ea un) = some (chg (shT now) (shT fresh), DSt fresh ea un) := by
  have big : 100001 < line := by decide
  have t1 := @dtext_eq now ea un h hl
  have t2 := @dtext_eq fresh ea un h2 hl2
  have l1 := shT_len h
  have l2 := shT_len h2
  have s1 := srT_len now
  have s2 := srT_len fresh
  have c := change_eq (x := shT now) (y := shT fresh) (by omega) (by omega)
  unfold m_Document__turn mb_Document__turn
  simp [retM, bd, mCons, mRet, zoom, pu, t1, t2, c]
theorem keep_eq (hl : ea.length ≤ 100000) : m_Document__keep (DSt now ea un) = some ((), DSt now (keepL (ea ++ [now])) un) := by
  have big : 100001 < line := by decide
  have c1 : chk [now] = some [now] := chk_ok (by show 1 ≤ line; decide)
  have g : gCat ea [now] = some (ea ++ [now]) := gCat_ok (by show ea.length + 1 ≤ line; omega)
  have cu := cut_m100 (ea ++ [now])
  unfold m_Document__keep mb_Document__keep
  simp [retU, bd, mSl, mMap, mOp, mMapO, mConsL, pu, ov, c1, g, cu]
theorem edit_eq {s e : Int} {more : List (Tx × Tx)} (h : OneU now) (hl : now.length ≤ 50000) (h2 : OneU more) (hl2 : more.length ≤ 50000) (hea : ea.length ≤ 100000) (hs : 0 ≤ s) (he : s ≤ e) (hen : e ≤ now.length) :
    m_Document__edit s e more (DSt now ea un) = if 2000 < (now.take s.toNat ++ more ++ now.drop e.toNat).length then some (.er tooLong, DSt now ea un) else some (.ok (chg (shT now) (shT (now.take s.toNat ++ more ++ now.drop e.toNat))), DSt (now.take s.toNat ++ more ++ now.drop e.toNat) (keepL (ea ++ [now])) []) := by
  have big : 200000 < line := by decide
  have ln : (now.take s.toNat).length + (now.drop e.toNat).length ≤ now.length := by rw [List.length_take, List.length_drop]; omega
  have c1 : cut now none (some s) = now.take s.toNat := cut_to hs
  have c2 : cut now (some e) none = now.drop e.toNat := cut_from (by omega)
  have g1 : gCat (now.take s.toNat) more = some (now.take s.toNat ++ more) := gCat_ok (by omega)
  have g2 : gCat (now.take s.toNat ++ more) (now.drop e.toNat) = some (now.take s.toNat ++ more ++ now.drop e.toNat) := gCat_ok (by rw [List.length_append]; omega)
  have one : OneU (now.take s.toNat ++ more ++ now.drop e.toNat) := ((h.sub fun u hu => List.mem_of_mem_take hu).app h2).app (h.sub fun u hu => List.mem_of_mem_drop hu)
  have lf : (now.take s.toNat ++ more ++ now.drop e.toNat).length ≤ 100000 := by
    rw [List.length_append, List.length_append]
    omega
  generalize now.take s.toNat ++ more ++ now.drop e.toNat = fresh at *
  have k := @keep_eq now ea un hea
  have t := @turn_eq now (keepL (ea ++ [now])) [] fresh h (by omega) one lf
  have ck : chk ([] : List (List (Tx × Tx))) = some [] := chk_ok (by decide)
  unfold m_Document__edit mb_Document__edit tooLong
  by_cases hc : 2000 < fresh.length
  · rw [if_pos hc]
    have hc' : (2000 : Int) < (fresh.length : Int) := by omega
    simp [retE, mThenE, bd, mSl, mMap, mIf, mOp, mMapO, mCons, gB, pu, ov, c1, c2, g1, g2, hc']
  · rw [if_neg hc]
    have hc' : ¬ (2000 : Int) < (fresh.length : Int) := by omega
    simp [retE, mThenE, mOk, flOk, mRet, bd, mSl, mMap, mIf, mOp, mMapO, mCons, gB, pu, ov, zoom, c1, c2, g1, g2, hc', k, t, ck]
theorem replace_eq {s e : Int} {fr : List (Tx × Tx)} (h : OneU now) (hl : now.length ≤ 50000) (hl2 : (unitsF fr).length ≤ 50000) (hea : ea.length ≤ 100000) (hs : 0 ≤ s) :
    m_Document_replace s e fr (DSt now ea un) = if e < s ∨ (now.length : Int) < e then some (.er outside, DSt now ea un) else if 2000 < (now.take s.toNat ++ unitsF fr ++ now.drop e.toNat).length then some (.er tooLong, DSt now ea un) else some (.ok (chg (shT now) (shT (now.take s.toNat ++ unitsF fr ++ now.drop e.toNat))), DSt (now.take s.toNat ++ unitsF fr ++ now.drop e.toNat) (keepL (ea ++ [now])) []) := by
  have big : 200000 < line := by decide
  have r := @require_eq now ea un s e
  have u := units_eq (fr := fr) (by omega)
  unfold m_Document_replace mb_Document_replace
  by_cases hc : e < s ∨ (now.length : Int) < e
  · rw [if_pos hc] at r ⊢
    refine retE_ap (mErr_er ?_)
    simp [bd, mCons, pu, zoom, r]
  · rw [if_neg hc] at r ⊢
    have ed := @edit_eq now ea un s e (unitsF fr) h hl (unitsF_one fr) hl2 hea hs (by omega) (by omega)
    rw [← ed]
    have ex : ∃ R S, m_Document__edit s e (unitsF fr) (DSt now ea un) = some (R, S) := by
      rw [ed]
      split
      · exact ⟨_, _, rfl⟩
      · exact ⟨_, _, rfl⟩
    obtain ⟨R, S, hR⟩ := ex
    rw [hR]
    refine retE_ap ((mErr_ok (x := ()) (b' := DSt now ea un) ?_).trans ?_)
    · simp [bd, mCons, pu, zoom, r]
    · simp [bd, mCons, pu, zoom, u, hR]
theorem undo_no : m_Document_undo (DSt now [] un) = some (.er noUndo, DSt now [] un) := by
  unfold m_Document_undo mb_Document_undo noUndo
  simp [retE, mThenE, bd, mIf, mNot, mMapO, pu, ov]
theorem undo_eq {old : List (Tx × Tx)} (h : OneU now) (hl : now.length ≤ 100000) (h2 : OneU old) (hl2 : old.length ≤ 100000) (hun : un.length ≤ 100000) :
    m_Document_undo (DSt now (ea ++ [old]) un) = some (.ok (chg (shT now) (shT old)), DSt old ea (un ++ [now])) := by
  have big : 100001 < line := by decide
  have c1 : chk [now] = some [now] := chk_ok (by show 1 ≤ line; decide)
  have g : gCat un [now] = some (un ++ [now]) := gCat_ok (by show un.length + 1 ≤ line; omega)
  have a : atI (ea ++ [old]) (-1) = some old := atI_end
  have cu := cut_m1 (ea ++ [old])
  rw [List.dropLast_concat] at cu
  have t := @turn_eq now ea (un ++ [now]) old h hl h2 hl2
  unfold m_Document_undo mb_Document_undo
  simp [retE, mThenE, mOk, flOk, mRet, bd, mSl, mMap, mIf, mNot, mOp, mMapO, mCons, mConsL, pu, ov, zoom, c1, g, a, cu, t]
theorem redo_no : m_Document_redo (DSt now ea []) = some (.er noRedo, DSt now ea []) := by
  unfold m_Document_redo mb_Document_redo noRedo
  simp [retE, mThenE, bd, mIf, mNot, mMapO, pu, ov]
theorem redo_eq {old : List (Tx × Tx)} (h : OneU now) (hl : now.length ≤ 100000) (h2 : OneU old) (hl2 : old.length ≤ 100000) (hea : ea.length ≤ 100000) :
    m_Document_redo (DSt now ea (un ++ [old])) = some (.ok (chg (shT now) (shT old)), DSt old (keepL (ea ++ [now])) un) := by
  have a : atI (un ++ [old]) (-1) = some old := atI_end
  have cu := cut_m1 (un ++ [old])
  rw [List.dropLast_concat] at cu
  have k := @keep_eq now ea (un ++ [old]) hea
  have t := @turn_eq now (keepL (ea ++ [now])) un old h hl h2 hl2
  unfold m_Document_redo mb_Document_redo
  simp [retE, mThenE, mOk, flOk, mRet, bd, mSl, mMap, mIf, mNot, mOp, mMapO, mCons, mConsL, pu, ov, zoom, a, cu, k, t]
end
/-! ### documents: compacting, sources, carrying out changes -/
theorem changed_chg {x y : Tx} (hx : x.length ≤ 100000) (hy : y.length ≤ 100000) : m_changed x (chg x y) = pu y := by
  have big : 300000 < line := by decide
  have b := @chg_back x y
  rw [changed_eq (by omega) fun u hu => ?_]
  · congr 1
    cases e : chg x y with
    | none => rw [e] at b; exact b
    | some u => rw [e] at b; exact b.2.2.1
  · rw [hu] at b
    obtain ⟨b1, b2, b3, b4, b5⟩ := b
    exact ⟨b1, b2, by omega, by rw [b3]; omega⟩
theorem chg_same {x y : Tx} (h : x = y) : chg x y = none := by
  unfold chg
  rw [if_pos h]
theorem shT_alike {A B P N : List (Tx × Tx)} (hA : OneU A) (hB : OneU B) (hP : OneU P) (hN : OneU N) (h : formF P = formF N) : shT (A ++ P ++ B) = shT (A ++ N ++ B) := by
  have e : frm (P.map absU) = frm (N.map absU) := (formF_iff hP hN).mp h
  unfold shT
  rw [textF_sh ((hA.app hP).app hB), textF_sh ((hA.app hN).app hB)]
  refine sh_of_frm ?_
  rw [List.map_append, List.map_append, List.map_append, List.map_append]
  exact frm_in e _ _
section
variable {now : List (Tx × Tx)} {ea un : List (List (Tx × Tx))}
theorem needF_le {us : List (Tx × Tx)} (h : OneU us) : (needF us).length ≤ us.length := by
  rw [← formF_needlen h]
  exact formF_len h
theorem compact_eq {s e : Int} (h : OneU now) (hl : now.length ≤ 50000) (hea : ea.length ≤ 100000) (hs : 0 ≤ s) :
    m_Document_compact s e (DSt now ea un) = if e < s ∨ (now.length : Int) < e then some (.er outside, DSt now ea un) else if 2000 < (now.take s.toNat ++ needF ((now.take e.toNat).drop s.toNat) ++ now.drop e.toNat).length then some (.er tooLong, DSt now ea un) else some (.ok (chg (shT now) (shT (now.take s.toNat ++ needF ((now.take e.toNat).drop s.toNat) ++ now.drop e.toNat))), DSt (now.take s.toNat ++ needF ((now.take e.toNat).drop s.toNat) ++ now.drop e.toNat) (keepL (ea ++ [now])) []) := by
  have r := @require_eq now ea un s e
  unfold m_Document_compact mb_Document_compact
  by_cases hc : e < s ∨ (now.length : Int) < e
  · rw [if_pos hc] at r ⊢
    refine retE_ap (mErr_er ?_)
    simp [bd, mCons, pu, zoom, r]
  · rw [if_neg hc] at r ⊢
    have oP : OneU ((now.take e.toNat).drop s.toNat) := h.sub fun u hu => List.mem_of_mem_take (List.mem_of_mem_drop hu)
    have lP : ((now.take e.toNat).drop s.toNat).length ≤ now.length := by rw [List.length_drop, List.length_take]; omega
    have nl := needF_le oP
    have ned := needed_eq oP (by omega)
    have cu : cut now (some s) (some e) = (now.take e.toNat).drop s.toNat := cut_mid hs (by omega)
    have ed := @edit_eq now ea un s e (needF ((now.take e.toNat).drop s.toNat)) h hl (oP.sub (needF_sub oP)) (by omega) hea hs (by omega) (by omega)
    rw [← ed]
    have ex : ∃ R S, m_Document__edit s e (needF ((now.take e.toNat).drop s.toNat)) (DSt now ea un) = some (R, S) := by
      rw [ed]
      split
      · exact ⟨_, _, rfl⟩
      · exact ⟨_, _, rfl⟩
    obtain ⟨R, S, hR⟩ := ex
    rw [hR]
    refine retE_ap ((mErr_ok (x := ()) (b' := DSt now ea un) ?_).trans ?_)
    · simp [bd, mCons, pu, zoom, r]
    · simp [bd, mCons, mSl, mMap, pu, ov, zoom, cu, ned, hR]
theorem source_eq {s e : Int} (h : OneU now) (hl : now.length ≤ 50000) (hs : 0 ≤ s) :
    m_Document_source s e (DSt now ea un) = if e < s ∨ (now.length : Int) < e then some (.er outside, DSt now ea un) else some (.ok (tidyF ((now.take e.toNat).drop s.toNat)), DSt now ea un) := by
  have r := @require_eq now ea un s e
  unfold m_Document_source mb_Document_source
  by_cases hc : e < s ∨ (now.length : Int) < e
  · rw [if_pos hc] at r ⊢
    refine retE_ap (mErr_er ?_)
    simp [bd, mCons, pu, zoom, r]
  · rw [if_neg hc] at r ⊢
    have oP : OneU ((now.take e.toNat).drop s.toNat) := h.sub fun u hu => List.mem_of_mem_take (List.mem_of_mem_drop hu)
    have lP : ((now.take e.toNat).drop s.toNat).length ≤ now.length := by rw [List.length_drop, List.length_take]; omega
    have td := tidy_eq oP (by omega)
    have cu : cut now (some s) (some e) = (now.take e.toNat).drop s.toNat := cut_mid hs (by omega)
    refine retE_ap ((mErr_ok (x := ()) (b' := DSt now ea un) ?_).trans ?_)
    · simp [bd, mCons, pu, zoom, r]
    · simp [bd, mCons, mSl, mMap, mOk, mRet, flOk, pu, ov, zoom, cu, td]
end

end My

namespace My
open PySem L2 Tw
structure Inv (us0 : List (Tx × Tx)) (i : Nat) (now : List (Tx × Tx)) (ea un : List (List (Tx × Tx))) : Prop where
  a : UAsc now
  l : now.length ≤ 24 + 3 * i
  o : ∀ x ∈ ea ++ un, UAsc x ∧ x.length ≤ 24 + 3 * i
  c : ea.length + un.length ≤ i
  h : (ea ++ now :: un.reverse).head? = some us0
theorem keep_same {α : Type} {l : List α} (h : l.length ≤ 100) : keepL l = l := by
  unfold keepL
  rw [show l.length - 100 = 0 by omega, List.drop_zero]
theorem Inv.up {us0 : List (Tx × Tx)} {i : Nat} {now : List (Tx × Tx)} {ea un : List (List (Tx × Tx))} (h : Inv us0 i now ea un) : Inv us0 (i + 1) now ea un :=
  ⟨h.a, by have := h.l; omega, fun x hx => ⟨(h.o x hx).1, by have := (h.o x hx).2; omega⟩, by have := h.c; omega, h.h⟩
theorem Inv.edit {us0 : List (Tx × Tx)} {i : Nat} {now W : List (Tx × Tx)} {ea un : List (List (Tx × Tx))} (h : Inv us0 i now ea un) (hi : i ≤ 30) (aW : UAsc W) (lW : W.length ≤ 24 + 3 * (i + 1)) : Inv us0 (i + 1) W (keepL (ea ++ [now])) [] := by
  have hc := h.c
  rw [keep_same (by rw [List.length_append, List.length_singleton]; omega)]
  refine ⟨aW, lW, fun x hx => ?_, by rw [List.length_append, List.length_singleton, List.length_nil]; omega, ?_⟩
  · rw [List.append_nil] at hx
    rcases List.mem_append.mp hx with z | z
    · have := h.o x (List.mem_append_left _ z)
      exact ⟨this.1, by omega⟩
    · rw [List.mem_singleton.mp z]
      exact ⟨h.a, by have := h.l; omega⟩
  · have := h.h
    cases ea with
    | nil => simpa using this
    | cons x r => simpa using this
theorem Inv.undo {us0 : List (Tx × Tx)} {i : Nat} {now old : List (Tx × Tx)} {ea un : List (List (Tx × Tx))} (h : Inv us0 i now (ea ++ [old]) un) : Inv us0 (i + 1) old ea (un ++ [now]) := by
  have hc := h.c
  rw [List.length_append, List.length_singleton] at hc
  have ho := h.o old (by simp)
  refine ⟨ho.1, by omega, fun x hx => ?_, by rw [List.length_append, List.length_singleton]; omega, ?_⟩
  · rcases List.mem_append.mp hx with z | z
    · have := h.o x (by simp [z])
      exact ⟨this.1, by omega⟩
    · rcases List.mem_append.mp z with z | z
      · have := h.o x (by simp [z])
        exact ⟨this.1, by omega⟩
      · rw [List.mem_singleton.mp z]
        exact ⟨h.a, by have := h.l; omega⟩
  · have := h.h
    rw [List.append_assoc] at this
    rw [List.reverse_append]
    exact this
theorem Inv.redo {us0 : List (Tx × Tx)} {i : Nat} {now old : List (Tx × Tx)} {ea un : List (List (Tx × Tx))} (h : Inv us0 i now ea (un ++ [old])) (hi : i ≤ 30) : Inv us0 (i + 1) old (keepL (ea ++ [now])) un := by
  have hc := h.c
  rw [List.length_append, List.length_singleton] at hc
  have ho := h.o old (by simp)
  rw [keep_same (by rw [List.length_append, List.length_singleton]; omega)]
  refine ⟨ho.1, by omega, fun x hx => ?_, by rw [List.length_append, List.length_singleton]; omega, ?_⟩
  · rcases List.mem_append.mp hx with z | z
    · rcases List.mem_append.mp z with z | z
      · have := h.o x (by simp [z])
        exact ⟨this.1, by omega⟩
      · rw [List.mem_singleton.mp z]
        exact ⟨h.a, by have := h.l; omega⟩
    · have := h.o x (by simp [z])
      exact ⟨this.1, by omega⟩
  · have := h.h
    rw [List.reverse_append] at this
    rw [List.append_assoc]
    exact this
/-! undoing all, redoing all -/
theorem loop_un {us0 : List (Tx × Tx)} {body : Tx → Int → M St_Document St_Document (Fl Tx (Option Tx))}
    (h1 : ∀ c x st st' w, m_Document_undo st = some (.er w, st') → body c x st = some (.rt (some c), st'))
    (h2 : ∀ c c' x st st' t, m_Document_undo st = some (.ok t, st') → m_changed c t = pu c' → body c x st = some (.nx c', st')) :
    ∀ (n : Nat) (xs : List Int) (i : Nat) (now : List (Tx × Tx)) (ea un : List (List (Tx × Tx))) (a : List (Tx × Tx)) (r : List (List (Tx × Tx))), ea.length = n → n < xs.length → i + n ≤ 100 → Inv us0 i now ea un → ea ++ now :: un.reverse = a :: r → loopM body xs (shT now) (DSt now ea un) = some (.rt (some (shT a)), DSt a [] r.reverse)
  | 0, [], _, _, _, _, _, _, _, h, _, _, _ => absurd h (by simp)
  | 0, x :: xs, i, now, ea, un, a, r, he, _, _, iv, eH => by
    have : ea = [] := List.length_eq_zero_iff.mp he
    subst this
    have eH : now :: un.reverse = a :: r := eH
    injection eH with e1 e2
    subst e1 e2
    show bd (body (shT now) x) _ (DSt now [] un) = _
    rw [bd_ap (h1 _ x _ _ _ undo_no), List.reverse_reverse]
    rfl
  | n + 1, [], _, _, _, _, _, _, _, h, _, _, _ => absurd h (by simp)
  | n + 1, x :: xs, i, now, ea, un, a, r, he, hx, hi, iv, eH => by
    obtain ⟨ea', old, rfl⟩ : ∃ e o, ea = e ++ [o] := ⟨ea.dropLast, ea.getLast (by intro z; subst z; simp at he), (List.dropLast_concat_getLast _).symm⟩
    have iv2 := iv.undo
    have hc := iv.c
    have ol := iv.l
    have ol2 := iv2.l
    have sl := shT_le iv.a.one
    have sl2 := shT_le iv2.a.one
    rw [List.length_append, List.length_singleton] at hc he
    have ud := undo_eq (now := now) (ea := ea') (un := un) (old := old) iv.a.one (by omega) iv2.a.one (by omega) (by omega)
    show bd (body (shT now) x) _ (DSt now (ea' ++ [old]) un) = _
    rw [bd_ap (h2 _ _ x _ _ _ ud (changed_chg (by omega) (by omega)))]
    exact loop_un h1 h2 n xs (i + 1) old ea' (un ++ [now]) a r (by omega) (by simpa using hx) (by omega) iv2 (by rw [← eH]; simp)
theorem loop_re {body : Tx → Int → M St_Document St_Document (Fl Tx (Option Tx))}
    (h1 : ∀ c x st st' w, m_Document_redo st = some (.er w, st') → body c x st = some (.rt (some c), st'))
    (h2 : ∀ c c' x st st' t, m_Document_redo st = some (.ok t, st') → m_changed c t = pu c' → body c x st = some (.nx c', st')) :
    ∀ (n : Nat) (xs : List Int) (now : List (Tx × Tx)) (ea un : List (List (Tx × Tx))) (q : List (List (Tx × Tx))) (z : List (Tx × Tx)), un.length = n → n < xs.length → ea.length + un.length ≤ 40 → (∀ x ∈ ea ++ now :: un, UAsc x ∧ x.length ≤ 1000) → ea ++ now :: un.reverse = q ++ [z] → loopM body xs (shT now) (DSt now ea un) = some (.rt (some (shT z)), DSt z q [])
  | 0, [], _, _, _, _, _, _, h, _, _, _ => absurd h (by simp)
  | 0, x :: xs, now, ea, un, q, z, he, _, _, _, eH => by
    have : un = [] := List.length_eq_zero_iff.mp he
    subst this
    have eH : ea ++ [now] = q ++ [z] := eH
    obtain ⟨e1, e2⟩ := List.append_inj' eH rfl
    injection e2 with e2
    subst e1 e2
    show bd (body (shT now) x) _ (DSt now ea []) = _
    rw [bd_ap (h1 _ x _ _ _ redo_no)]
    rfl
  | n + 1, [], _, _, _, _, _, _, h, _, _, _ => absurd h (by simp)
  | n + 1, x :: xs, now, ea, un, q, z, he, hx, hc, ha, eH => by
    obtain ⟨un', old, rfl⟩ : ∃ e o, un = e ++ [o] := ⟨un.dropLast, un.getLast (by intro z; subst z; simp at he), (List.dropLast_concat_getLast _).symm⟩
    have a1 := ha now (by simp)
    have a2 := ha old (by simp)
    have sl := shT_le a1.1.one
    have sl2 := shT_le a2.1.one
    rw [List.length_append, List.length_singleton] at hc he
    have rd := redo_eq (now := now) (ea := ea) (un := un') (old := old) a1.1.one (by omega) a2.1.one (by omega) (by omega)
    rw [keep_same (by rw [List.length_append, List.length_singleton]; omega)] at rd
    show bd (body (shT now) x) _ (DSt now ea (un' ++ [old])) = _
    rw [bd_ap (h2 _ _ x _ _ _ rd (changed_chg (by omega) (by omega)))]
    refine loop_re h1 h2 n xs old (ea ++ [now]) un' q z (by omega) (by simpa using hx) (by rw [List.length_append, List.length_singleton]; omega) (fun y hy => ha y ?_) (by rw [← eH]; simp)
    simp only [List.mem_append, List.mem_cons, List.mem_singleton, List.not_mem_nil, or_false] at hy ⊢
    rcases hy with (z | z) | z | z
    · exact .inl z
    · exact .inr (.inl z)
    · exact .inr (.inr (.inr z))
    · exact .inr (.inr (.inl z))
theorem all_un {us0 : List (Tx × Tx)} {i : Nat} {now : List (Tx × Tx)} {ea un : List (List (Tx × Tx))} {a : List (Tx × Tx)} {r : List (List (Tx × Tx))} (iv : Inv us0 i now ea un) (hi : i ≤ 31) (eH : ea ++ now :: un.reverse = a :: r) : m_law_all (shT now) 0 (DSt now ea un) = some (some (shT a), DSt a [] r.reverse) := by
  have ra : gRange1 (40, ()) = some (rangeI 0 40) := range1_ok (by decide)
  have hc := iv.c
  unfold m_law_all mb_law_all
  simp only [mCons_pu, mMapO_pu, ra, ov_get, bd_pu]
  have key : ∀ (body : Tx → Int → M St_Document St_Document (Fl Tx (Option Tx))) (k : Tx → M St_Document St_Document (Fl Unit (Option Tx))),
      (∀ c x st st' w, m_Document_undo st = some (.er w, st') → body c x st = some (.rt (some c), st')) → (∀ c c' x st st' t, m_Document_undo st = some (.ok t, st') → m_changed c t = pu c' → body c x st = some (.nx c', st')) →
      retM (mThen (fun b => b) (loopM body (rangeI 0 40) (shT now)) k) (DSt now ea un) = some (some (shT a), DSt a [] r.reverse) := fun body k h1 h2 => by
    have lp := loop_un h1 h2 ea.length (rangeI 0 40) i now ea un a r rfl (by rw [rangeI_len]; omega) (by omega) iv eH
    unfold retM mThen
    rw [bd_ap (x := .rt (some (shT a))) (b1 := DSt a [] r.reverse)]
    · rfl
    · rw [bd_ap lp]
      rfl
  refine key _ _ (fun c x st st' w h => ?_) fun c c' x st st' t h hc => ?_
  · simp [mThen, mTryO, mErr, mCa, mRes, mHd, mIf, mOp, mRet, mMap, rtD, bd, pu, ov, zoom, h, Res.map]
  · simp [mThen, mTryO, mErr, mCa, mRes, mHd, mIf, mOp, mRet, mMap, rtD, bd, pu, ov, zoom, h, Res.map, hc]
theorem all_re {now : List (Tx × Tx)} {ea un : List (List (Tx × Tx))} {q : List (List (Tx × Tx))} {z : List (Tx × Tx)} (hc : ea.length + un.length ≤ 32) (ha : ∀ x ∈ ea ++ now :: un, UAsc x ∧ x.length ≤ 1000) (eH : ea ++ now :: un.reverse = q ++ [z]) : m_law_all (shT now) 1 (DSt now ea un) = some (some (shT z), DSt z q []) := by
  have ra : gRange1 (40, ()) = some (rangeI 0 40) := range1_ok (by decide)
  unfold m_law_all mb_law_all
  simp only [mCons_pu, mMapO_pu, ra, ov_get, bd_pu]
  have key : ∀ (body : Tx → Int → M St_Document St_Document (Fl Tx (Option Tx))) (k : Tx → M St_Document St_Document (Fl Unit (Option Tx))),
      (∀ c x st st' w, m_Document_redo st = some (.er w, st') → body c x st = some (.rt (some c), st')) → (∀ c c' x st st' t, m_Document_redo st = some (.ok t, st') → m_changed c t = pu c' → body c x st = some (.nx c', st')) →
      retM (mThen (fun b => b) (loopM body (rangeI 0 40) (shT now)) k) (DSt now ea un) = some (some (shT z), DSt z q []) := fun body k h1 h2 => by
    have lp := loop_re h1 h2 un.length (rangeI 0 40) now ea un q z rfl (by rw [rangeI_len]; omega) (by omega) ha eH
    unfold retM mThen
    rw [bd_ap (x := .rt (some (shT z))) (b1 := DSt z q [])]
    · rfl
    · rw [bd_ap lp]
      rfl
  refine key _ _ (fun c x st st' w h => ?_) fun c c' x st st' t h hc => ?_
  · simp [mThen, mTryO, mErr, mCa, mRes, mHd, mIf, mOp, mRet, mMap, rtD, bd, pu, ov, zoom, h, Res.map]
  · simp [mThen, mTryO, mErr, mCa, mRes, mHd, mIf, mOp, mRet, mMap, rtD, bd, pu, ov, zoom, h, Res.map, hc]

end My

namespace My
open PySem L2 Tw
section
variable {β β1 β2 α γ γ' δ ρ : Type}
theorem _root_.Tw.Tri.bdT {I : β → Prop} {m : M β β α} {k : α → M β β2 γ} {q : α → Prop} {R : γ → β2 → Prop} (h : Tot I m q) (hk : ∀ x, q x → Tri I (k x) R) : Tri I (bd m k) R := fun b i => by
  obtain ⟨x, b', e, i', hq⟩ := h b i
  obtain ⟨y, b2, e2, r⟩ := hk x hq b' i'
  exact ⟨y, b2, by rw [bd_ap e]; exact e2, r⟩
theorem _root_.Tw.Tri.thenRt {j : β → β2} {m : M β β (Fl γ' ρ)} {k : γ' → M β β2 (Fl γ ρ)} {P : β → Prop} {Q : ρ → β2 → Prop} (h : Tri P m fun o b => ∃ r, o = .rt r ∧ Q r (j b)) : Tri P (mThen j m k) fun o b => ∃ r, o = .rt r ∧ Q r b := fun b i => by
  obtain ⟨o, b', e, r, rfl, q⟩ := h b i
  exact ⟨.rt r, j b', by unfold mThen; rw [bd_ap e]; rfl, r, rfl, q⟩
theorem _root_.Tw.Tot.zoomD {σ ρ : Type} {m : M Bx Bx ρ} {Q : ρ → Prop} {R : σ → Prop} (h : Tot BxOk m Q) : Tot (fun b : Bx × σ => BxOk b.1 ∧ R b.2) (zoom (fun b : Bx × σ => b.1) (fun (b : Bx × σ) (c : Bx) => (c, b.2)) m) Q := fun b i => by
  obtain ⟨x, b', e, i', q⟩ := h b.1 i.1
  refine ⟨x, (b', b.2), ?_, ⟨i', i.2⟩, q⟩
  unfold zoom
  rw [e]
  rfl
/-- a question to the document, whose state stays -/
theorem _root_.Tw.Tot.ask {σ ρ : Type} {m : M σ σ ρ} {s : σ} {x : ρ} (h : m s = some (x, s)) : Tot (fun b : Bx × σ => BxOk b.1 ∧ b.2 = s) (zoom (fun b : Bx × σ => b.2) (fun (b : Bx × σ) (c : σ) => (b.1, c)) m) (fun y => y = x) := fun b i => by
  obtain ⟨bx, st⟩ := b
  obtain ⟨i1, rfl⟩ := i
  refine ⟨x, (bx, st), ?_, ⟨i1, rfl⟩, rfl⟩
  unfold zoom
  show Option.map _ (m st) = _
  rw [h]
  rfl
end
def DeedOk (us0 : List (Tx × Tx)) (i : Nat) (now : List (Tx × Tx)) (t : L3 (Option (T3 Int Int Tx)) Bool (Option (List (Tx × Tx)))) (b : Bx × St_Document) : Prop :=
  BxOk b.1 ∧ ∃ now' ea' un', b.2 = DSt now' ea' un' ∧ Inv us0 i now' ea' un' ∧ t.a = chg (shT now) (shT now') ∧ (t.b = true → t.a = none) ∧ (t.c = none ∨ t.c = some (tidyF now'))
theorem deed_ok {us0 : List (Tx × Tx)} {i : Nat} {now : List (Tx × Tx)} {ea un : List (List (Tx × Tx))} (iv : Inv us0 i now ea un) (hi : i ≤ 29) : Tri (fun b : Bx × St_Document => BxOk b.1 ∧ b.2 = DSt now ea un) m_law_deed (DeedOk us0 (i + 1) now) := by
  have big : 300000 < line := by decide
  have nl := iv.l
  have na := iv.a
  have n1 := na.one
  have hc := iv.c
  have dr : ∀ n : Int, 0 < n → Tot (fun b : Bx × St_Document => BxOk b.1 ∧ b.2 = DSt now ea un) (zoom (fun b : Bx × St_Document => b.1) (fun (b : Bx × St_Document) (c : Bx) => (c, b.2)) (m_law_draw n)) fun v => 0 ≤ v ∧ v < n := fun n h => Tot.zoomD (R := fun s : St_Document => s = DSt now ea un) (draw_ok h)
  have md : ∀ (mm : M (Bx × St_Document) (Bx × St_Document) Int) (m : Int), 0 < m → Tot (fun b : Bx × St_Document => BxOk b.1 ∧ b.2 = DSt now ea un) mm (fun y => y = m) → Tot (fun b : Bx × St_Document => BxOk b.1 ∧ b.2 = DSt now ea un) (mOp gMod (mMapO (fun x : Int × Unit => some x.1) (mCons (zoom (fun b : Bx × St_Document => b.1) (fun (b : Bx × St_Document) (c : Bx) => (c, b.2)) (m_law_draw 200)) (pu ()))) mm) fun v => 0 ≤ v ∧ v < m := fun mm m hm h =>
    .op (A := fun _ => True) (B := fun y => y = m) (.mapO (A := fun _ => True) (.one (A := fun _ => True) ((dr 200 (by decide)).imp fun _ _ => trivial)) fun z _ => ⟨z.1, rfl, trivial⟩) h fun x y _ hy => ⟨x % y, gMod_ok (by omega), by subst hy; exact ⟨Int.emod_nonneg _ (by omega), Int.emod_lt_of_pos _ hm⟩⟩
  have len := @dlength_eq now ea un
  have con := @dcontent_eq now ea un n1 (by omega)
  have tu := units_tidy n1
  have tl := tidy_len now
  have lun : m_law_units (tidyF now) = pu now := by rw [lunits_eq (by rw [tu]; omega), tu]
  unfold m_law_deed mb_law_deed
  simp only [mCons_pu, bd_pu]
  refine Tri.retM ?_
  refine .bdT (dr 7 (by decide)) fun kind hk => ?_
  refine .bdT (md _ ((now.length : Int) + 1) (by omega) (.op (A := fun x => x = (now.length : Int)) (B := fun y => y = 1) (.ask len) .eq fun x y hx hy => ⟨x + y, rfl, by rw [hx, hy]⟩)) fun s hs => ?_
  refine .bdT (q := fun e => s ≤ e ∧ e ≤ now.length) (.op (A := fun x => x = s) (B := fun v => 0 ≤ v ∧ v < (now.length : Int) + 1 - s) .eq (md _ ((now.length : Int) + 1 - s) (by omega) (.op (A := fun x => x = (now.length : Int) + 1) (B := fun y => y = s) (.op (A := fun x => x = (now.length : Int)) (B := fun y => y = 1) (.ask len) .eq fun x y hx hy => ⟨x + y, rfl, by rw [hx, hy]⟩) .eq fun x y hx hy => ⟨x - y, rfl, by rw [hx, hy]⟩)) fun x y hx hy => ⟨x + y, rfl, by omega⟩) fun e he => ?_
  refine .bdT (q := fun u => u = now) (.bd (.one (.ask con)) fun z hz => by
    have hz : z.1 = tidyF now := hz
    rw [hz, lun, zoomU_pu]
    exact .pu rfl) fun u hu => ?_
  subst hu
  have c1 : cut u none (some s) = u.take s.toNat := cut_to hs.1
  have c2 : cut u (some e) none = u.drop e.toNat := cut_from (by omega)
  have lt1 : (u.take s.toNat).length ≤ s.toNat := by rw [List.length_take]; omega
  have ld : (u.drop e.toNat).length = u.length - e.toNat := List.length_drop ..
  have aT : UAsc (u.take s.toNat) := na.sub fun v hv => List.mem_of_mem_take hv
  have aD : UAsc (u.drop e.toNat) := na.sub fun v hv => List.mem_of_mem_drop hv
  -- an edit that puts N
  have put : ∀ (fr : List (Tx × Tx)), UAsc (unitsF fr) → (unitsF fr).length ≤ (e.toNat - s.toNat) + 3 →
      (∃ W, u.take s.toNat ++ unitsF fr ++ u.drop e.toNat = W ∧ m_law_units fr = pu (unitsF fr) ∧ gCat (u.take s.toNat) (unitsF fr) = some (u.take s.toNat ++ unitsF fr) ∧ gCat (u.take s.toNat ++ unitsF fr) (u.drop e.toNat) = some W ∧ m_law_tidy W = pu (tidyF W) ∧ m_Document_replace s e fr (DSt u ea un) = some (.ok (chg (shT u) (shT W)), DSt W (keepL (ea ++ [u])) []) ∧ Inv us0 (i + 1) W (keepL (ea ++ [u])) []) := fun fr af lf => by
    have lW : (u.take s.toNat ++ unitsF fr ++ u.drop e.toNat).length ≤ 24 + 3 * (i + 1) := by
      rw [List.length_append, List.length_append]
      omega
    have aW : UAsc (u.take s.toNat ++ unitsF fr ++ u.drop e.toNat) := (aT.app af).app aD
    refine ⟨_, rfl, lunits_eq (by omega), gCat_ok (by omega), gCat_ok (by rw [List.length_append]; omega), ltidy_eq aW.one (by omega), ?_, iv.edit (by omega) aW lW⟩
    have r := @replace_eq u ea un s e fr n1 (by omega) (by omega) (by omega) hs.1
    rw [if_neg (by omega), if_neg (by omega)] at r
    exact r
  have oP : OneU ((u.take e.toNat).drop s.toNat) := n1.sub fun v hv => List.mem_of_mem_take (List.mem_of_mem_drop hv)
  have aP : UAsc ((u.take e.toNat).drop s.toNat) := na.sub fun v hv => List.mem_of_mem_take (List.mem_of_mem_drop hv)
  have lP : ((u.take e.toNat).drop s.toNat).length = e.toNat - s.toNat := by rw [List.length_drop, List.length_take]; omega
  have whole : u.take s.toNat ++ (u.take e.toNat).drop s.toNat ++ u.drop e.toNat = u := by
    have h1 : u.take s.toNat = (u.take e.toNat).take s.toNat := by rw [List.take_take, Nat.min_eq_left (by omega)]
    rw [h1, List.take_append_drop, List.take_append_drop]
  have same : ∀ N : List (Tx × Tx), OneU N → formF N = formF ((u.take e.toNat).drop s.toNat) → shT (u.take s.toNat ++ N ++ u.drop e.toNat) = shT u := fun N hN hf => by
    have := shT_alike aT.one aD.one hN oP hf
    rw [whole] at this
    exact this
  simp only [mMap_pu, mSl_pu, c1, c2, ov_get, mOp_pu, gB, mIf_pu]
  by_cases k3 : kind < 3
  · simp only [decide_eq_true k3, if_true]
    refine .thenRt ?_
    refine .bdT (q := Short) (Tot.zoomD (R := fun s : St_Document => s = DSt u ea un) short_ok) fun part hp => ?_
    obtain ⟨ap, lp, _⟩ := short_units hp
    obtain ⟨W, hW, p1, p2, p3, p4, p5, p6⟩ := put part ap (by omega)
    simp only [p1, p2, p3, p4, zoomU_pu, bd_pu, mOp_pu, ov_get, mCons_pu]
    rintro ⟨bx, st⟩ ⟨h1, h2⟩
    obtain rfl : st = _ := h2
    refine ⟨.rt (mkL3 (chg (shT u) (shT W), false, some (tidyF W), ())), (bx, DSt W (keepL (ea ++ [u])) []), ?_, _, rfl, h1, W, _, _, rfl, p6, rfl, fun h => (by cases h), .inr rfl⟩
    simp [mRet, mMap, mCons, bd, pu, zoom, p5, resOk]
  simp only [decide_eq_false k3, Bool.false_eq_true, if_false, mThen_nx, gEqS_int, ov_get, mIf_pu, decide_eq_true_eq]
  by_cases k3' : kind = 3
  · rw [if_pos k3']
    refine .thenRt ?_
    have so := @source_eq u ea un s e n1 (by omega) hs.1
    rw [if_neg (by omega)] at so
    refine .bdT (q := fun p => p = tidyF ((u.take e.toNat).drop s.toNat)) (fun b i => by
      obtain ⟨bx, st⟩ := b
      obtain ⟨h1, h2⟩ := i
      obtain rfl : st = _ := h2
      refine ⟨_, (bx, DSt u ea un), ?_, ⟨h1, rfl⟩, rfl⟩
      simp [bd, zoom, so, resOk, pu]) fun p hp => ?_
    subst hp
    have tuP := units_tidy oP
    have sh := shortened_eq (fr := tidyF ((u.take e.toNat).drop s.toNat)) (by rw [tuP]; omega)
    have nf := nform_eq (fr := tidyF ((u.take e.toNat).drop s.toNat)) (by rw [tuP]; omega)
    rw [tuP] at sh nf
    have fl := formF_len oP
    have nel := needF_len ((u.take e.toNat).drop s.toNat)
    have st := stands_eq (t := formF ((u.take e.toNat).drop s.toNat)) (by omega)
    have k2 : ∀ a b : List (Tx × Tx), chk [a, b] = some [a, b] := fun a b => chk_ok (by show 2 ≤ line; decide)
    simp only [sh, nf, st, zoomU_pu, bd_pu, mCons_pu, mConsL_pu, mMapO_pu, k2, ov_get]
    refine .bdT (Tot.ixL (w := [tidyF (needF ((u.take e.toNat).drop s.toNat)), tidyF (unitsForF (formF ((u.take e.toNat).drop s.toNat)))]) (n := 2) (Int.le_refl 2) (dr 2 (by decide))) fun other ho => ?_
    have key : ∃ N : List (Tx × Tx), unitsF other = N ∧ UAsc N ∧ N.length ≤ e.toNat - s.toNat ∧ formF N = formF ((u.take e.toNat).drop s.toNat) := by
      rcases List.mem_cons.mp ho with rfl | ho
      · exact ⟨_, units_tidy (oP.sub (needF_sub oP)), need_asc aP, by omega, formF_need oP⟩
      · rw [List.mem_singleton.mp ho]
        exact ⟨_, units_tidy (unitsForF_one _), unitsFor_asc aP, by omega, formF_units oP⟩
    obtain ⟨N, eN, aN, lN, fN⟩ := key
    obtain ⟨W, hW, p1, p2, p3, p4, p5, p6⟩ := put other (by rw [eN]; exact aN) (by rw [eN]; omega)
    have hs : shT W = shT u := by
      rw [← hW, eN]
      exact same N aN.one fN
    have hch : chg (shT u) (shT W) = none := chg_same hs.symm
    simp only [p1, p2, p3, p4, zoomU_pu, bd_pu, mOp_pu, ov_get, mCons_pu, mMap_pu]
    rintro ⟨bx, st⟩ ⟨h1, h2⟩
    obtain rfl : st = _ := h2
    refine ⟨.rt (mkL3 (chg (shT u) (shT W), true, some (tidyF W), ())), (bx, DSt W (keepL (ea ++ [u])) []), ?_, _, rfl, h1, W, _, _, rfl, p6, rfl, fun _ => hch, .inr rfl⟩
    simp [mRet, mMap, mCons, bd, pu, zoom, p5, resOk]
  rw [if_neg k3', mThen_nx]
  by_cases k4 : kind = 4
  · rw [if_pos k4]
    refine .thenRt ?_
    have co := @compact_eq u ea un s e n1 (by omega) (by omega) hs.1
    have nel := needF_len ((u.take e.toNat).drop s.toNat)
    have lW : (u.take s.toNat ++ needF ((u.take e.toNat).drop s.toNat) ++ u.drop e.toNat).length ≤ 24 + 3 * (i + 1) := by
      rw [List.length_append, List.length_append]
      omega
    have aW : UAsc (u.take s.toNat ++ needF ((u.take e.toNat).drop s.toNat) ++ u.drop e.toNat) := (aT.app (need_asc aP)).app aD
    have p6 := iv.edit (by omega) aW lW
    have hs2 := same _ (oP.sub (needF_sub oP)) (formF_need oP)
    rw [if_neg (by omega), if_neg (by omega)] at co
    generalize u.take s.toNat ++ needF ((u.take e.toNat).drop s.toNat) ++ u.drop e.toNat = W at *
    have hch : chg (shT u) (shT W) = none := chg_same hs2.symm
    rintro ⟨bx, st⟩ ⟨h1, h2⟩
    obtain rfl : st = _ := h2
    refine ⟨.rt (mkL3 (chg (shT u) (shT W), true, none, ())), (bx, DSt W (keepL (ea ++ [u])) []), ?_, _, rfl, h1, W, _, _, rfl, p6, rfl, fun _ => hch, .inl rfl⟩
    simp [mRet, mMap, mCons, bd, pu, zoom, co, resOk]
  rw [if_neg k4, mThen_nx]
  refine .thenRt ?_
  rintro ⟨bx, st⟩ ⟨h1, h2⟩
  obtain rfl : st = _ := h2
  have cs : chg (shT u) (shT u) = none := chg_same rfl
  by_cases k5 : kind = 5
  · rcases List.eq_nil_or_concat ea with rfl | ⟨ea', old, rfl⟩
    · refine ⟨.rt (mkL3 (none, true, none, ())), (bx, DSt u [] un), ?_, _, rfl, h1, u, _, _, rfl, iv.up, cs.symm, fun _ => rfl, .inl rfl⟩
      have ud := @undo_no u un
      simp [mTryO, mThenE, mRes, mHd, mRet, mMap, mCons, mIf, bd, pu, zoom, ud, Res.map, k5]
    · rw [List.concat_eq_append] at iv hc ⊢
      have iv2 := iv.undo
      rw [List.length_append, List.length_singleton] at hc
      have l2 := iv2.l
      have ud := undo_eq (now := u) (ea := ea') (un := un) (old := old) n1 (by omega) iv2.a.one (by omega) (by omega)
      refine ⟨.rt (mkL3 (chg (shT u) (shT old), false, none, ())), (bx, DSt old ea' (un ++ [u])), ?_, _, rfl, h1, old, _, _, rfl, iv2, rfl, fun h => (by cases h), .inl rfl⟩
      simp [mTryO, mThenE, mRes, mHd, mRet, mMap, mCons, mIf, bd, pu, zoom, ud, Res.map, k5]
  · rcases List.eq_nil_or_concat un with rfl | ⟨un', old, rfl⟩
    · refine ⟨.rt (mkL3 (none, true, none, ())), (bx, DSt u ea []), ?_, _, rfl, h1, u, _, _, rfl, iv.up, cs.symm, fun _ => rfl, .inl rfl⟩
      have rd := @redo_no u ea
      simp [mTryO, mThenE, mRes, mHd, mRet, mMap, mCons, mIf, bd, pu, zoom, rd, Res.map, k5]
    · rw [List.concat_eq_append] at iv hc ⊢
      have iv2 := iv.redo (by omega)
      rw [List.length_append, List.length_singleton] at hc
      have l2 := iv2.l
      have rd := redo_eq (now := u) (ea := ea) (un := un') (old := old) n1 (by omega) iv2.a.one (by omega) (by omega)
      refine ⟨.rt (mkL3 (chg (shT u) (shT old), false, none, ())), (bx, DSt old (keepL (ea ++ [u])) un'), ?_, _, rfl, h1, old, _, _, rfl, iv2, rfl, fun h => (by cases h), .inl rfl⟩
      simp [mTryO, mThenE, mRes, mHd, mRet, mMap, mCons, mIf, bd, pu, zoom, rd, Res.map, k5]

theorem Inv.le {us0 : List (Tx × Tx)} {i j : Nat} {now : List (Tx × Tx)} {ea un : List (List (Tx × Tx))} (h : Inv us0 i now ea un) (hj : i ≤ j) : Inv us0 j now ea un :=
  ⟨h.a, by have := h.l; omega, fun x hx => ⟨(h.o x hx).1, by have := (h.o x hx).2; omega⟩, by have := h.c; omega, h.h⟩
theorem gNe_some {x : List (Tx × Tx)} (h : EqD.ok x = true) : gNeD x (some x) = some false := by
  have := gNe_same h
  unfold gNeD at this ⊢
  exact this
theorem gNeS_ot {x : Tx} : gNeS (some x) x = some false := by show some (!decide (V.str (tS x) = V.str (tS x))) = _; simp
theorem gEqS_ot {x : Tx} : gEqS (some x) x = some true := by show some (decide (V.str (tS x) = V.str (tS x))) = _; simp
theorem law_true (ns : List Int) (_ : ns.length ≤ 63) : m_law ⟨ns⟩ () = some (true, ()) := by
  obtain ⟨r, hr⟩ := row_ok ns 63 (by decide)
  have big : 300000 < line := by decide
  unfold m_law mb_law
  simp only [mCons_pu, bd_pu, hr, zoomU_pu, zoom_id]
  have e0 : ∀ (Z : M Bx Unit (Fl Unit Bool)), Tri BxOk Z (fun o _ => o = .rt true) → retM (newB Z r) () = some (true, ()) := fun Z hZ => by
    obtain ⟨o, b', e, rfl⟩ := hZ (r, 0) (show (0 : Int) ≤ 0 by decide)
    unfold retM newB
    rw [bd_ap (x := .rt true) (b1 := b') e]
    rfl
  refine e0 _ ?_
  clear e0
  refine .bdT part_ok fun fr hfr => ?_
  obtain ⟨us0, rfl, a0, l0⟩ := hfr
  have tu := units_tidy a0.one
  have di := dinit_eq (fr := tidyF us0) (by rw [tu]; omega)
  rw [tu] at di
  have iv0 : Inv us0 0 us0 [] [] := ⟨a0, by omega, fun _ h => absurd h List.not_mem_nil, Nat.le_refl _, rfl⟩
  intro b i
  simp only [di, Option.bind_some]
  have key : ∀ (Mb : M (Bx × St_Document) Unit (Fl Unit Bool)), Tri (fun b : Bx × St_Document => BxOk b.1 ∧ b.2 = DSt us0 [] []) Mb (fun o _ => o = .rt true) → ∃ x b', Mb (b, DSt us0 [] []) = some (x, b') ∧ x = .rt true := fun Mb h => by
    obtain ⟨o, b', e, q⟩ := h (b, DSt us0 [] []) ⟨i, rfl⟩
    exact ⟨o, b', e, q⟩
  refine key _ ?_
  clear key
  have t0 := @dtext_eq us0 [] [] a0.one (by omega)
  refine .bdT (Tot.ask t0) fun t ht => ?_
  subst ht
  refine Tri.then (J := fun (c : Tx) (b : Bx × St_Document) => BxOk b.1 ∧ ∃ now ea un, b.2 = DSt now ea un ∧ Inv us0 30 now ea un ∧ c = shT now) ?_ fun c => ?_
  · refine .bdT (q := fun xs => ∃ v, xs = rangeI 0 v ∧ 0 ≤ v ∧ v < 31) (.mapO (A := fun z : Int × Unit => 0 ≤ z.1 ∧ z.1 < 31) (.one (A := fun v => 0 ≤ v ∧ v < 31) (Tot.zoomD (R := fun s : St_Document => s = DSt us0 [] []) (draw_ok (by decide)))) fun z hz => ⟨_, range1_ok (n := z.1) (by omega), z.1, rfl, hz⟩) fun xs ⟨v, e, hv⟩ => ?_
    subst e
    refine ((Tri.loop (J := fun i (c : Tx) (b : Bx × St_Document) => i ≤ 30 ∧ BxOk b.1 ∧ ∃ now ea un, b.2 = DSt now ea un ∧ Inv us0 i now ea un ∧ c = shT now) (rangeI 0 v) 0 fun j c x hj => ?_).pre fun b hb => ⟨Nat.zero_le _, hb.1, us0, [], [], hb.2, iv0, rfl⟩).imp fun o b ⟨c', e, _, h1, now, ea, un, h2, h3, h4⟩ => ⟨c', e, h1, now, ea, un, h2, ?_, h4⟩
    · have hj30 : j < 30 := by
        have := (List.getElem?_eq_some_iff.mp hj).1
        rw [rangeI_len] at this
        omega
      rw [Nat.zero_add]
      rintro ⟨bx, st⟩ ⟨_, h1, now, ea, un, h2, iv, rfl⟩
      obtain rfl : st = _ := h2
      have hl := iv.l
      obtain ⟨t, ⟨bx', st'⟩, e, hb, now', ea', un', h2', iv', ha, hq, hcc⟩ := deed_ok iv (by omega) (bx, DSt now ea un) ⟨h1, rfl⟩
      obtain rfl : st' = _ := h2'
      have hl' := iv'.l
      have s1 := shT_le iv.a.one
      have s2 := shT_le iv'.a.one
      have cc := changed_chg (x := shT now) (y := shT now') (by omega) (by omega)
      have tx := @dtext_eq now' ea' un' iv'.a.one (by omega)
      have co := @dcontent_eq now' ea' un' iv'.a.one (by omega)
      have tu' := units_tidy iv'.a.one
      have lu : m_law_units (tidyF now') = pu now' := by rw [lunits_eq (by rw [tu']; omega), tu']
      have ls : m_law_shown now' = pu ⟨shT now', srT now'⟩ := lshown_eq iv'.a.one (by omega)
      have nD := gNe_some (tidy_okD iv'.a)
      refine ⟨.nx (shT now'), (bx', DSt now' ea' un'), ?_, shT now', rfl, by omega, hb, now', ea', un', rfl, iv', rfl⟩
      have ze : zoom (fun b : Bx × St_Document => b) (fun (b : Bx × St_Document) (c : Bx × St_Document) => c) m_law_deed (bx, DSt now ea un) = some (t, (bx', DSt now' ea' un')) := by
        rw [zoom_id]; exact e
      rw [bd_ap e]
      rw [ha]
      obtain ⟨ta, tb, tc⟩ := t
      have ha : ta = chg (shT now) (shT now') := ha
      have hq : tb = true → ta = none := hq
      have hcc : tc = none ∨ tc = some (tidyF now') := hcc
      have q1 : (tb && (chg (shT now) (shT now')).isSome) = false := by
        cases tb with
        | false => rfl
        | true => rw [← ha, hq rfl]; rfl
      rcases hcc with rfl | rfl
      · cases tb with
        | false => simp [mThen, mIf, mOr, mAnd, mOp, mMapO, mCons, bd, pu, ov, zoom, cc, tx, co, lu, ls, gK]
        | true =>
          have q2 : (chg (shT now) (shT now')).isSome = false := q1
          simp [mThen, mIf, mOr, mAnd, mOp, mMapO, mCons, bd, pu, ov, zoom, cc, tx, co, lu, ls, gK, q2]
      · cases tb with
        | false => simp [mThen, mIf, mOr, mAnd, mOp, mMapO, mCons, bd, pu, ov, zoom, cc, tx, co, lu, ls, gK, nD]
        | true =>
          have q2 : (chg (shT now) (shT now')).isSome = false := q1
          simp [mThen, mIf, mOr, mAnd, mOp, mMapO, mCons, bd, pu, ov, zoom, cc, tx, co, lu, ls, gK, q2, nD]
    · rename_i hi2
      exact h3.le hi2
  · rintro ⟨bx, st⟩ ⟨h1, now, ea, un, h2, iv, rfl⟩
    obtain rfl : st = _ := h2
    have hl := iv.l
    have hc := iv.c
    -- the contents in a row
    obtain ⟨q, z, eq⟩ : ∃ q z, ea ++ now :: un.reverse = q ++ [z] := ⟨_, _, (List.dropLast_concat_getLast (by simp)).symm⟩
    obtain ⟨a, rr, ea_⟩ : ∃ a rr, ea ++ now :: un.reverse = a :: rr := by
      cases ea with
      | nil => exact ⟨_, _, rfl⟩
      | cons x y => exact ⟨_, _, rfl⟩
    have ha0 : a = us0 := by
      have := iv.h
      rw [ea_] at this
      simpa using this
    subst ha0
    have all : ∀ x ∈ ea ++ now :: un.reverse, UAsc x ∧ x.length ≤ 114 := fun x hx => by
      rcases List.mem_append.mp hx with z | z
      · have := iv.o x (List.mem_append_left _ z)
        exact ⟨this.1, by omega⟩
      · rcases List.mem_cons.mp z with rfl | z
        · exact ⟨iv.a, by omega⟩
        · have := iv.o x (List.mem_append_right _ (List.mem_reverse.mp z))
          exact ⟨this.1, by omega⟩
    have lenH : (ea ++ now :: un.reverse).length ≤ 31 := by
      rw [List.length_append, List.length_cons, List.length_reverse]
      omega
    have f1 := all_re (now := now) (ea := ea) (un := un) (q := q) (z := z) (by omega) (fun x hx => by
      have := all x (by
        rcases List.mem_append.mp hx with z | z
        · exact List.mem_append_left _ z
        · rcases List.mem_cons.mp z with rfl | z
          · exact List.mem_append_right _ List.mem_cons_self
          · exact List.mem_append_right _ (List.mem_cons_of_mem _ (List.mem_reverse.mpr z)))
      exact ⟨this.1, by omega⟩) eq
    rw [eq] at all lenH ea_
    rw [List.length_append, List.length_singleton] at lenH
    have az := all z (by simp)
    have tz := @dtext_eq z q [] az.1.one (by omega)
    have ivz : Inv a 30 z q [] := ⟨az.1, by omega, fun x hx => by
      rw [List.append_nil] at hx
      exact all x (List.mem_append_left _ hx), by rw [List.length_nil]; omega, by rw [List.reverse_nil, ea_]; rfl⟩
    have f2 := all_un ivz (by omega) (a := a) (r := rr) (by rw [List.reverse_nil]; exact ea_)
    have lr : rr.length ≤ 30 := by
      have := congrArg List.length ea_
      rw [List.length_append, List.length_singleton, List.length_cons] at this
      omega
    have f3 := all_re (now := a) (ea := []) (un := rr.reverse) (q := q) (z := z) (by rw [List.length_reverse, List.length_nil]; omega) (fun x hx => by
      have := all x (by
        rw [ea_]
        rcases List.mem_cons.mp hx with rfl | hx
        · exact List.mem_cons_self
        · exact List.mem_cons_of_mem _ (List.mem_reverse.mp hx))
      exact ⟨this.1, by omega⟩) (by rw [List.reverse_reverse, List.nil_append]; exact ea_.symm)
    have ca := @dcontent_eq a [] rr.reverse a0.one (by omega)
    have nD := gNe_same (tidy_okD a0)
    have n1 := @gNeS_ot (shT z)
    have n2 := @gNeS_ot (shT a)
    have n3 := @gEqS_ot (shT z)
    refine ⟨.rt true, (), ?_, rfl⟩
    simp [mThen, mIf, mOr, mOp, mMapO, mCons, mRetD, rtD, bd, pu, ov, zoom, f1, tz, f2, ca, nD, f3, n1, n2, n3]

end My

namespace My
open PySem L2 Tw
def top (i : Nat) : Stmt := PySem.Challenge.pw_gapsalike_k83_whole_histories.main.body.getD i (.Pass ⟨0, 0, 0, 0⟩)
structure Txt (K : PySem.W.Frag) (mg : Str → Option Value) : Prop where
  b_abs : mg "abs" = none
  b_enumerate : mg "enumerate" = none
  b_int : mg "int" = none
  b_len : mg "len" = none
  b_min : mg "min" = none
  b_range : mg "range" = none
  c_MOST_EARLIER : ∃ v u, mg "MOST_EARLIER" = some u ∧ RelV v u ∧ CstV K ((100 : Int) : Int) v
  c_MOST_UNITS : ∃ v u, mg "MOST_UNITS" = some u ∧ RelV v u ∧ CstV K ((2000 : Int) : Int) v
  c_WIDE : ∃ u, mg "WIDE" = some u ∧ RelV (.str "ABCDEFGHIJKLMNOPQRSTUVWXYZ") u
abbrev s_common : Stmt := top 2
theorem sc_common : FnScope ["one", "two", "count"] ["one", "two"] (defScope s_common) := ⟨rfl, rfl, rfl, by decide +kernel, rfl, by decide +kernel, by decide +kernel⟩

abbrev s_change : Stmt := top 3
theorem sc_change : FnScope ["one", "two", "offset", "end"] ["one", "two"] (defScope s_change) := ⟨rfl, rfl, rfl, by decide +kernel, rfl, by decide +kernel, by decide +kernel⟩

abbrev s_changed : Stmt := top 4
theorem sc_changed : FnScope ["one", "told", "offset", "removed", "inserted"] ["one", "told"] (defScope s_changed) := ⟨rfl, rfl, rfl, by decide +kernel, rfl, by decide +kernel, by decide +kernel⟩

abbrev s_GapsError___init : Stmt := inClass (top 6) 0

abbrev s_units : Stmt := top 9
theorem sc_units : FnScope ["fragment", "sign", "mode", "signs"] ["fragment"] (defScope s_units) := ⟨rfl, rfl, rfl, by decide +kernel, rfl, by decide +kernel, by decide +kernel⟩

abbrev s_tidy : Stmt := top 10
theorem sc_tidy : FnScope ["told", "runs", "mode", "sign", "signs"] ["told"] (defScope s_tidy) := ⟨rfl, rfl, rfl, by decide +kernel, rfl, by decide +kernel, by decide +kernel⟩

abbrev s_kind : Stmt := top 11
theorem sc_kind : FnScope ["mode", "sign"] ["mode", "sign"] (defScope s_kind) := ⟨rfl, rfl, rfl, by decide +kernel, rfl, by decide +kernel, by decide +kernel⟩

abbrev s_kinds : Stmt := top 12
theorem sc_kinds : FnScope ["told", "mode", "sign"] ["told"] (defScope s_kinds) := ⟨rfl, rfl, rfl, by decide +kernel, rfl, by decide +kernel, by decide +kernel⟩

abbrev s_is_solid : Stmt := top 13
theorem sc_is_solid : FnScope ["one"] ["one"] (defScope s_is_solid) := ⟨rfl, rfl, rfl, by decide +kernel, rfl, by decide +kernel, by decide +kernel⟩

abbrev s_Gap___init : Stmt := inClass (top 15) 0
theorem sc_Gap___init : FnScope ["self", "left", "right", "numbers"] ["self", "left", "right", "numbers"] (defScope s_Gap___init) := ⟨rfl, rfl, rfl, by decide +kernel, rfl, by decide +kernel, by decide +kernel⟩

abbrev s_gaps_of : Stmt := top 16
theorem sc_gaps_of : FnScope ["told", "border", "found", "left", "numbers", "k", "one"] ["told", "border"] (defScope s_gaps_of) := ⟨rfl, rfl, rfl, by decide +kernel, rfl, by decide +kernel, by decide +kernel⟩

abbrev s_join : Stmt := top 17
theorem sc_join : FnScope ["left", "right"] ["left", "right"] (defScope s_join) := ⟨rfl, rfl, rfl, by decide +kernel, rfl, by decide +kernel, by decide +kernel⟩

abbrev s_white_of : Stmt := top 18
theorem sc_white_of : FnScope ["told", "gap", "feeds", "spaces", "k"] ["told", "gap"] (defScope s_white_of) := ⟨rfl, rfl, rfl, by decide +kernel, rfl, by decide +kernel, by decide +kernel⟩

abbrev s_counting : Stmt := top 19
theorem sc_counting : FnScope ["told", "border", "whites", "gap", "k", "one"] ["told", "border"] (defScope s_counting) := ⟨rfl, rfl, rfl, by decide +kernel, rfl, by decide +kernel, by decide +kernel⟩

abbrev s_sign_shown : Stmt := top 21
theorem sc_sign_shown : FnScope ["one", "sign"] ["one", "sign"] (defScope s_sign_shown) := ⟨rfl, rfl, rfl, by decide +kernel, rfl, by decide +kernel, by decide +kernel⟩

abbrev s_shown_units : Stmt := top 22
theorem sc_shown_units : FnScope ["content", "told", "sources", "k"] ["content"] (defScope s_shown_units) := ⟨rfl, rfl, rfl, by decide +kernel, rfl, by decide +kernel, by decide +kernel⟩

abbrev s_needed : Stmt := top 24
theorem sc_needed : FnScope ["told", "k"] ["told"] (defScope s_needed) := ⟨rfl, rfl, rfl, by decide +kernel, rfl, by decide +kernel, by decide +kernel⟩

abbrev s_shortened : Stmt := top 25
theorem sc_shortened : FnScope ["fragment"] ["fragment"] (defScope s_shortened) := ⟨rfl, rfl, rfl, by decide +kernel, rfl, by decide +kernel, by decide +kernel⟩

abbrev s_with_feed_last : Stmt := top 26
theorem sc_with_feed_last : FnScope ["signs"] ["signs"] (defScope s_with_feed_last) := ⟨rfl, rfl, rfl, by decide +kernel, rfl, by decide +kernel, by decide +kernel⟩

abbrev s_with_feed_first : Stmt := top 27
theorem sc_with_feed_first : FnScope ["signs"] ["signs"] (defScope s_with_feed_first) := ⟨rfl, rfl, rfl, by decide +kernel, rfl, by decide +kernel, by decide +kernel⟩

abbrev s_form_of : Stmt := top 28
theorem sc_form_of : FnScope ["told", "kept", "ones", "solid", "start", "core", "end", "first", "last", "k", "one", "mode", "sign"] ["told"] (defScope s_form_of) := ⟨rfl, rfl, rfl, by decide +kernel, rfl, by decide +kernel, by decide +kernel⟩

abbrev s_normal_form : Stmt := top 29
theorem sc_normal_form : FnScope ["fragment"] ["fragment"] (defScope s_normal_form) := ⟨rfl, rfl, rfl, by decide +kernel, rfl, by decide +kernel, by decide +kernel⟩

abbrev s_units_for : Stmt := top 30
theorem sc_units_for : FnScope ["form"] ["form"] (defScope s_units_for) := ⟨rfl, rfl, rfl, by decide +kernel, rfl, by decide +kernel, by decide +kernel⟩

abbrev s_stands_for : Stmt := top 31
theorem sc_stands_for : FnScope ["form"] ["form"] (defScope s_stands_for) := ⟨rfl, rfl, rfl, by decide +kernel, rfl, by decide +kernel, by decide +kernel⟩

abbrev s_Document___init : Stmt := inClass (top 35) 0
theorem sc_Document___init : FnScope ["self", "fragment"] ["self", "fragment"] (defScope s_Document___init) := ⟨rfl, rfl, rfl, by decide +kernel, rfl, by decide +kernel, by decide +kernel⟩

abbrev s_Document_text : Stmt := inClass (top 35) 1
theorem sc_Document_text : FnScope ["self"] ["self"] (defScope s_Document_text) := ⟨rfl, rfl, rfl, by decide +kernel, rfl, by decide +kernel, by decide +kernel⟩

abbrev s_Document_length : Stmt := inClass (top 35) 2
theorem sc_Document_length : FnScope ["self"] ["self"] (defScope s_Document_length) := ⟨rfl, rfl, rfl, by decide +kernel, rfl, by decide +kernel, by decide +kernel⟩

abbrev s_Document_content : Stmt := inClass (top 35) 3
theorem sc_Document_content : FnScope ["self"] ["self"] (defScope s_Document_content) := ⟨rfl, rfl, rfl, by decide +kernel, rfl, by decide +kernel, by decide +kernel⟩

abbrev s_Document__turn : Stmt := inClass (top 35) 4
theorem sc_Document__turn : FnScope ["self", "fresh", "before"] ["self", "fresh"] (defScope s_Document__turn) := ⟨rfl, rfl, rfl, by decide +kernel, rfl, by decide +kernel, by decide +kernel⟩

abbrev s_Document__keep : Stmt := inClass (top 35) 5
theorem sc_Document__keep : FnScope ["self"] ["self"] (defScope s_Document__keep) := ⟨rfl, rfl, rfl, by decide +kernel, rfl, by decide +kernel, by decide +kernel⟩

abbrev s_Document__require : Stmt := inClass (top 35) 6
theorem sc_Document__require : FnScope ["self", "start", "end"] ["self", "start", "end"] (defScope s_Document__require) := ⟨rfl, rfl, rfl, by decide +kernel, rfl, by decide +kernel, by decide +kernel⟩

abbrev s_Document__edit : Stmt := inClass (top 35) 7
theorem sc_Document__edit : FnScope ["self", "start", "end", "more", "fresh"] ["self", "start", "end", "more"] (defScope s_Document__edit) := ⟨rfl, rfl, rfl, by decide +kernel, rfl, by decide +kernel, by decide +kernel⟩

abbrev s_Document_replace : Stmt := inClass (top 35) 8
theorem sc_Document_replace : FnScope ["self", "start", "end", "fragment"] ["self", "start", "end", "fragment"] (defScope s_Document_replace) := ⟨rfl, rfl, rfl, by decide +kernel, rfl, by decide +kernel, by decide +kernel⟩

abbrev s_Document_compact : Stmt := inClass (top 35) 9
theorem sc_Document_compact : FnScope ["self", "start", "end"] ["self", "start", "end"] (defScope s_Document_compact) := ⟨rfl, rfl, rfl, by decide +kernel, rfl, by decide +kernel, by decide +kernel⟩

abbrev s_Document_undo : Stmt := inClass (top 35) 10
theorem sc_Document_undo : FnScope ["self", "fresh"] ["self"] (defScope s_Document_undo) := ⟨rfl, rfl, rfl, by decide +kernel, rfl, by decide +kernel, by decide +kernel⟩

abbrev s_Document_redo : Stmt := inClass (top 35) 11
theorem sc_Document_redo : FnScope ["self", "fresh"] ["self"] (defScope s_Document_redo) := ⟨rfl, rfl, rfl, by decide +kernel, rfl, by decide +kernel, by decide +kernel⟩

abbrev s_Document_source : Stmt := inClass (top 35) 12
theorem sc_Document_source : FnScope ["self", "start", "end"] ["self", "start", "end"] (defScope s_Document_source) := ⟨rfl, rfl, rfl, by decide +kernel, rfl, by decide +kernel, by decide +kernel⟩

abbrev s_law_cell : Stmt := top 37
theorem sc_law_cell : FnScope ["_law_script", "_law_k"] ["_law_script", "_law_k"] (defScope s_law_cell) := ⟨rfl, rfl, rfl, by decide +kernel, rfl, by decide +kernel, by decide +kernel⟩

abbrev s_law_row : Stmt := top 38
theorem sc_law_row : FnScope ["_law_script", "_law_first", "_law_last", "_law_row_here", "_law_k", "_law_cell_here", "_law_turn"] ["_law_script", "_law_first", "_law_last"] (defScope s_law_row) := ⟨rfl, rfl, rfl, by decide +kernel, rfl, by decide +kernel, by decide +kernel⟩

abbrev s_law_draw : Stmt := top 39
theorem sc_law_draw : FnScope ["_law_box", "_law_many", "_law_at"] ["_law_box", "_law_many"] (defScope s_law_draw) := ⟨rfl, rfl, rfl, by decide +kernel, rfl, by decide +kernel, by decide +kernel⟩

abbrev s_law_fragment : Stmt := top 40
theorem sc_law_fragment : FnScope ["_law_box", "_law_most", "_law_out", "_law_k", "_law_mode", "_law_text", "_law_j"] ["_law_box", "_law_most"] (defScope s_law_fragment) := ⟨rfl, rfl, rfl, by decide +kernel, rfl, by decide +kernel, by decide +kernel⟩

abbrev s_law_units : Stmt := top 41
theorem sc_law_units : FnScope ["_law_fragment_here", "_law_out", "_law_mode", "_law_text", "_law_sign_here"] ["_law_fragment_here"] (defScope s_law_units) := ⟨rfl, rfl, rfl, by decide +kernel, rfl, by decide +kernel, by decide +kernel⟩

abbrev s_law_tidy : Stmt := top 42
theorem sc_law_tidy : FnScope ["_law_units_here", "_law_out", "_law_mode", "_law_sign_here"] ["_law_units_here"] (defScope s_law_tidy) := ⟨rfl, rfl, rfl, by decide +kernel, rfl, by decide +kernel, by decide +kernel⟩

abbrev s_law_kind : Stmt := top 43
theorem sc_law_kind : FnScope ["_law_unit", "_law_mode", "_law_sign_here"] ["_law_unit"] (defScope s_law_kind) := ⟨rfl, rfl, rfl, by decide +kernel, rfl, by decide +kernel, by decide +kernel⟩

abbrev s_law_gaps : Stmt := top 44
theorem sc_law_gaps : FnScope ["_law_units_here", "_law_kinds", "_law_gaps_here", "_law_k", "_law_unit"] ["_law_units_here"] (defScope s_law_gaps) := ⟨rfl, rfl, rfl, by decide +kernel, rfl, by decide +kernel, by decide +kernel⟩

abbrev s_law_join : Stmt := top 45
theorem sc_law_join : FnScope ["_law_one", "_law_two"] ["_law_one", "_law_two"] (defScope s_law_join) := ⟨rfl, rfl, rfl, by decide +kernel, rfl, by decide +kernel, by decide +kernel⟩

abbrev s_law_kept : Stmt := top 46
theorem sc_law_kept : FnScope ["_law_units_here", "_law_gap", "_law_kinds", "_law_k"] ["_law_units_here", "_law_gap"] (defScope s_law_kept) := ⟨rfl, rfl, rfl, by decide +kernel, rfl, by decide +kernel, by decide +kernel⟩

abbrev s_law_sign : Stmt := top 47
theorem sc_law_sign : FnScope ["_law_unit", "_law_kind_here"] ["_law_unit"] (defScope s_law_sign) := ⟨rfl, rfl, rfl, by decide +kernel, rfl, by decide +kernel, by decide +kernel⟩

abbrev s_law_shown : Stmt := top 48
theorem sc_law_shown : FnScope ["_law_units_here", "_law_gaps_here", "_law_kept_here", "_law_sources", "_law_gap", "_law_k"] ["_law_units_here"] (defScope s_law_shown) := ⟨rfl, rfl, rfl, by decide +kernel, rfl, by decide +kernel, by decide +kernel⟩

abbrev s_law_part : Stmt := top 49
theorem sc_law_part : FnScope ["_law_box"] ["_law_box"] (defScope s_law_part) := ⟨rfl, rfl, rfl, by decide +kernel, rfl, by decide +kernel, by decide +kernel⟩

abbrev s_law_short_part : Stmt := top 50
theorem sc_law_short_part : FnScope ["_law_box", "_law_text", "_law_k"] ["_law_box"] (defScope s_law_short_part) := ⟨rfl, rfl, rfl, by decide +kernel, rfl, by decide +kernel, by decide +kernel⟩

abbrev s_law_deed : Stmt := top 51
theorem sc_law_deed : FnScope ["_law_box", "_law_document", "_law_kind_here", "_law_start", "_law_end", "_law_units_here", "_law_part_here", "_law_due", "_law_other"] ["_law_box", "_law_document"] (defScope s_law_deed) := ⟨rfl, rfl, rfl, by decide +kernel, rfl, by decide +kernel, by decide +kernel⟩

abbrev s_law_all : Stmt := top 52
theorem sc_law_all : FnScope ["_law_document", "_law_text", "_law_which", "_law_turn"] ["_law_document", "_law_text", "_law_which"] (defScope s_law_all) := ⟨rfl, rfl, rfl, by decide +kernel, rfl, by decide +kernel, by decide +kernel⟩

abbrev s_law : Stmt := top 53
theorem sc_law : FnScope ["_law_script", "_law_box", "_law_first", "_law_document", "_law_text", "_law_begin", "_law_turn", "_law_forth", "_law_last", "_law_back", "_law_told", "_law_quiet", "_law_due"] ["_law_script"] (defScope s_law) := ⟨rfl, rfl, rfl, by decide +kernel, rfl, by decide +kernel, by decide +kernel⟩

section
variable {P : Program} {w : World} {K : PySem.W.Frag} {mg : Str → Option Value} {base : Heap}
theorem ok_common (R : Raw K mg "_common" ["one", "two"] s_common) (T : Txt K mg) : Df P w K mg base "_common" 1 ["one", "two"] (sp K (α := (Tx × (Tx × Unit))) f0 (fun x => m_common x.1 x.2.1)) := by
  obtain ⟨f, fd, Fn, hm, hk, hb⟩ := R.ex
  refine ⟨f, fd, Fn.ok sc_common (sp_len (n := 2) fun _ => rfl) (fun cdv A outer s H vs Q E hr h => ?_), hm, hk, hb⟩
  refine ⟨_, pss_cons (ps_set (i := 2) sc_common.nd rfl (Or.inl rfl) (pe_int)) (pss_cons (ps_while PassesOwn.never (PW.pt (pw_and (pt_cmpN op_lt (pv 2) (pe_callB (callMin2 rfl) (by rfl) T.b_min bt_min (pa_cons (pe_callB callLenT (by rfl) T.b_len bt_len (pa_cons (pv 0) (pa_nil))) (pa_cons (pe_callB callLenT (by rfl) T.b_len bt_len (pa_cons (pv 1) (pa_nil))) (pa_nil))))) (pw_and1 (pt_cmpN op_eq (pe_ix ix_str (pv 0) (pv 2) (fun _ _ => rfl)) (pe_ix ix_str (pv 1) (pv 2) (fun _ _ => rfl)))))) (pss_cons (ps_aug (i := 2) sc_common.nd rfl (Or.inl rfl) (pe_int) iop_addI) (pss_nil))) (pss_cons (ps_ret (pv 2)) pss_nil)), ?_⟩
  refine @run_body K (Tx × (Tx × Unit)) Int Unit Unit _ _ f0 (fun x => m_common x.1 x.2.1) (fun x => mb_common x.1 x.2.1) (fun _ _ => [.un, .un, .un]) _ ["one", "two", "count"] 0 vs H Q E h (fun _ => rfl) 3 2 (fun _ => rfl) rfl rfl (by decide) (fun x => ?_)
  obtain ⟨v_one, v_two, _⟩ := x
  show Ss K _ [Sl.of K v_one, Sl.of K v_two, .un] f0 f0 (mb_common v_one v_two) _
  exact ss_asg (es_int) tg_name fun v_count_1 => ss_then (e1 := (fun g4 : Int => [Sl.of K v_one, Sl.of K v_two, Sl.of K g4])) (ss_while (c0 := v_count_1) ⟨.inr rfl, ⟨.inr rfl, ⟨.inr rfl, trivial⟩⟩⟩ (fun c2 => et_and (et_test (K := K) (es_op o2_lt (es_var (i := 2) rfl) (es_cb cl_min2 (ea_cons (es_cb cl_lenT (ea_cons (es_var (i := 0) rfl) (ea_nil))) (ea_cons (es_cb cl_lenT (ea_cons (es_var (i := 1) rfl) (ea_nil))) (ea_nil)))))) (et_test (K := K) (es_op o2_eqS (es_op o2_ixS (es_var (i := 0) rfl) (es_var (i := 2) rfl)) (es_op o2_ixS (es_var (i := 1) rfl) (es_var (i := 2) rfl))))) (fun c2 => ss_aug (x := c2) rfl o2_add (es_int) fun v_count_3 => ss_nx ⟨.inr rfl, ⟨.inr rfl, ⟨.inr rfl, trivial⟩⟩⟩)) (fun g4 => ss_last (ss_ret (es_var (i := 2) rfl))) (fun _ => ⟨0, rfl⟩)

theorem ok_change (R : Raw K mg "change" ["one", "two"] s_change) (T : Txt K mg) (D_common : Df P w K mg base "_common" 1 ["one", "two"] (sp K (α := (Tx × (Tx × Unit))) f0 (fun x => m_common x.1 x.2.1))) : Df P w K mg base "change" 2 ["one", "two"] (sp K (α := (Tx × (Tx × Unit))) f0 (fun x => m_change x.1 x.2.1)) := by
  obtain ⟨f_common, fd_common, g_common, m_g_common, k_g_common, b_g_common⟩ := D_common.ex
  obtain ⟨f, fd, Fn, hm, hk, hb⟩ := R.ex
  refine ⟨f, fd, Fn.ok sc_change (sp_len (n := 2) fun _ => rfl) (fun cdv A outer s H vs Q E hr h => ?_), hm, hk, hb⟩
  refine ⟨_, pss_cons (ps_if (pt_cmpN op_eq (pv 0) (pv 1)) (pss_cons (ps_ret (pe_non)) pss_nil) (pss_nil)) (pss_cons (ps_set (i := 2) sc_change.nd rfl (Or.inl rfl) (pe_call g_common (hr.mono (by decide)) rfl m_g_common k_g_common b_g_common .nil pass0 (pa_cons (pv 0) (pa_cons (pv 1) (pa_nil))))) (pss_cons (ps_set (i := 3) sc_change.nd rfl (Or.inl rfl) (pe_call g_common (hr.mono (by decide)) rfl m_g_common k_g_common b_g_common .nil pass0 (pa_cons (pe_revS (pe_slice sl_str (pv 0) (po_some (pv 2)) (po_none))) (pa_cons (pe_revS (pe_slice sl_str (pv 1) (po_some (pv 2)) (po_none))) (pa_nil))))) (pss_cons (ps_ret (pe_tup (pa_cons (pv 2) (pa_cons (pe_op op_sub (pe_op op_sub (pe_callB callLenT (by rfl) T.b_len bt_len (pa_cons (pv 0) (pa_nil))) (pv 2)) (pv 3)) (pa_cons (pe_slice sl_str (pv 1) (po_some (pv 2)) (po_some (pe_op op_sub (pe_callB callLenT (by rfl) T.b_len bt_len (pa_cons (pv 1) (pa_nil))) (pv 3)))) (pa_nil)))))) pss_nil))), ?_⟩
  refine @run_body K (Tx × (Tx × Unit)) (Option (T3 Int Int Tx)) Unit Unit _ _ f0 (fun x => m_change x.1 x.2.1) (fun x => mb_change x.1 x.2.1) (fun _ _ => [.un, .un, .un, .un]) _ ["one", "two", "offset", "end"] 0 vs H Q E h (fun _ => rfl) 4 2 (fun _ => rfl) rfl rfl (by decide) (fun x => ?_)
  obtain ⟨v_one, v_two, _⟩ := x
  show Ss K _ [Sl.of K v_one, Sl.of K v_two, .un, .un] f0 f0 (mb_change v_one v_two) _
  exact ss_then (e1 := (fun g1 : Unit => [Sl.of K v_one, Sl.of K v_two, .un, .un])) (ss_if (et_test (K := K) (es_op o2_eqS (es_var (i := 0) rfl) (es_var (i := 1) rfl))) (ss_last (ss_ret (es_noneO))) (ss_nx ⟨.inr rfl, ⟨.inr rfl, ⟨.inl rfl, ⟨.inl rfl, trivial⟩⟩⟩⟩)) (fun g1 => ss_asg (es_callP (ea_cons (es_var (i := 0) rfl) (ea_cons (es_var (i := 1) rfl) (ea_nil)))) tg_name fun v_offset_2 => ss_asg (es_callP (ea_cons (es_revS (es_slice sl3_S (es_var (i := 0) rfl) (eo_some (K := K) (es_var (i := 2) rfl)) (eo_none))) (ea_cons (es_revS (es_slice sl3_S (es_var (i := 1) rfl) (eo_some (K := K) (es_var (i := 2) rfl)) (eo_none))) (ea_nil)))) tg_name fun v_end_3 => ss_last (ss_ret (es_cast cast_some (es_tup3 (ea_cons (es_var (i := 2) rfl) (ea_cons (es_op o2_sub (es_op o2_sub (es_cb cl_lenT (ea_cons (es_var (i := 0) rfl) (ea_nil))) (es_var (i := 2) rfl)) (es_var (i := 3) rfl)) (ea_cons (es_slice sl3_S (es_var (i := 1) rfl) (eo_some (K := K) (es_var (i := 2) rfl)) (eo_some (K := K) (es_op o2_sub (es_cb cl_lenT (ea_cons (es_var (i := 1) rfl) (ea_nil))) (es_var (i := 3) rfl)))) (ea_nil)))))))) (fun _ => ⟨0, rfl⟩)

theorem ok_changed (R : Raw K mg "changed" ["one", "told"] s_changed) (T : Txt K mg) : Df P w K mg base "changed" 1 ["one", "told"] (sp K (α := (Tx × ((Option (T3 Int Int Tx)) × Unit))) f0 (fun x => m_changed x.1 x.2.1)) := by
  obtain ⟨f, fd, Fn, hm, hk, hb⟩ := R.ex
  refine ⟨f, fd, Fn.ok sc_changed (sp_len (n := 2) fun _ => rfl) (fun cdv A outer s H vs Q E hr h => ?_), hm, hk, hb⟩
  refine ⟨_, pss_cons (ps_if (pt_cmpN opIsNon (pv 1) (pe_non)) (pss_cons (ps_ret (pv 0)) pss_nil) (pss_nil)) (pss_cons (ps_asg (pv 1) (pg_tup rfl (pgs_cons (pg_name (i := 2) sc_changed.nd rfl (Or.inl rfl)) (pgs_cons (pg_name (i := 3) sc_changed.nd rfl (Or.inl rfl)) (pgs_cons (pg_name (i := 4) sc_changed.nd rfl (Or.inl rfl)) (pgs_nil)))))) (pss_cons (ps_ret (pe_op opAddS (pe_op opAddS (pe_slice sl_str (pv 0) (po_none) (po_some (pv 2))) (pv 4)) (pe_slice sl_str (pv 0) (po_some (pe_op op_add (pv 2) (pv 3))) (po_none)))) pss_nil)), ?_⟩
  refine @run_body K (Tx × ((Option (T3 Int Int Tx)) × Unit)) Tx Unit Unit _ _ f0 (fun x => m_changed x.1 x.2.1) (fun x => mb_changed x.1 x.2.1) (fun _ _ => [.un, .un, .un, .un, .un]) _ ["one", "told", "offset", "removed", "inserted"] 0 vs H Q E h (fun _ => rfl) 5 2 (fun _ => rfl) rfl rfl (by decide) (fun x => ?_)
  obtain ⟨v_one, v_told, _⟩ := x
  show Ss K _ [Sl.of K v_one, Sl.of K v_told, .un, .un, .un] f0 f0 (mb_changed v_one v_told) _
  exact ss_then (e1 := (fun g1 : Unit => [Sl.of K v_one, Sl.of K v_told, .un, .un, .un])) (ss_if (et_test (K := K) (es_op o2_isN (es_var (i := 1) rfl) (es_non))) (ss_last (ss_ret (es_var (i := 0) rfl))) (ss_nx ⟨.inr rfl, ⟨.inr rfl, ⟨.inl rfl, ⟨.inl rfl, ⟨.inl rfl, trivial⟩⟩⟩⟩⟩)) (fun g1 => ss_asg (es_castO castO_id (es_var (i := 1) rfl)) tg_tri fun t2 => ss_last (ss_ret (es_op o2_addS (es_op o2_addS (es_slice sl3_S (es_var (i := 0) rfl) (eo_none) (eo_some (K := K) (es_var (i := 2) rfl))) (es_var (i := 4) rfl)) (es_slice sl3_S (es_var (i := 0) rfl) (eo_some (K := K) (es_op o2_add (es_var (i := 2) rfl) (es_var (i := 3) rfl))) (eo_none))))) (fun _ => ⟨0, rfl⟩)


theorem ok_units (R : Raw K mg "units" ["fragment"] s_units) (T : Txt K mg) : Df P w K mg base "units" 1 ["fragment"] (sp K (α := ((List (Tx × Tx)) × Unit)) f0 (fun x => m_units x.1)) := by
  obtain ⟨f, fd, Fn, hm, hk, hb⟩ := R.ex
  refine ⟨f, fd, Fn.ok sc_units (sp_len (n := 1) fun _ => rfl) (fun cdv A outer s H vs Q E hr h => ?_), hm, hk, hb⟩
  refine ⟨_, pss_cons (ps_ret (pe_lc2 (own := [("mode", 2), ("signs", 3), ("sign", 1)]) (vs1 := [1]) rfl sc_units.nd (pi_list (pv 0)) (blkOk_by (N := ["fragment", "sign", "mode", "signs"]) (sc := defScope s_units) (by decide +kernel)) (by decide) (fun _ _ _ _ _ => show PG _ _ (gTup K 2 (gCons (gName 2) (gCons (gName 3) gNil))) from pg_tup rfl (pgs_cons (pg_name (i := 2) sc_units.nd rfl (Or.inl rfl) (Or.inr rfl)) (pgs_cons (pg_name (i := 3) sc_units.nd rfl (Or.inl rfl) (Or.inr rfl)) pgs_nil))) (fun _ _ _ _ _ => pts_nil) (fun _ _ _ _ _ => pi_str (pv 3)) (fun _ _ _ _ _ => pg_name (i := 1) sc_units.nd rfl (Or.inl rfl)) (fun _ _ _ _ _ => pts_nil) (fun _ _ _ _ _ => pe_tup (pa_cons (pv 2) (pa_cons (pv 1) (pa_nil)))))) pss_nil, ?_⟩
  refine @run_body K ((List (Tx × Tx)) × Unit) (List (Tx × Tx)) Unit Unit _ _ f0 (fun x => m_units x.1) (fun x => mb_units x.1) (fun _ _ => [.un, .un, .un, .un]) _ ["fragment", "sign", "mode", "signs"] 0 vs H Q E h (fun _ => rfl) 4 1 (fun _ => rfl) rfl rfl (by decide) (fun x => ?_)
  obtain ⟨v_fragment, _⟩ := x
  show Ss K _ [Sl.of K v_fragment, .un, .un, .un] f0 f0 (mb_units v_fragment) _
  exact ss_last (ss_ret (es_lc2 (vs := [2, 3, 1]) (vs1 := [1]) (ei_list (es_var (i := 0) rfl)) tg_pair (tgw_pair (by decide) (by decide)) (fun x1 => ei_str (es_var (i := 3) rfl)) (fun x1 => tg_name) (tgw_name (by decide)) (fun x1 x2 => es_tup2 (ea_cons (es_var (i := 2) rfl) (ea_cons (es_var (i := 1) rfl) (ea_nil))))))

theorem ok_tidy (R : Raw K mg "tidy" ["told"] s_tidy) (T : Txt K mg) : Df P w K mg base "tidy" 1 ["told"] (sp K (α := ((List (Tx × Tx)) × Unit)) f0 (fun x => m_tidy x.1)) := by
  obtain ⟨f, fd, Fn, hm, hk, hb⟩ := R.ex
  refine ⟨f, fd, Fn.ok sc_tidy (sp_len (n := 1) fun _ => rfl) (fun cdv A outer s H vs Q E hr h => ?_), hm, hk, hb⟩
  refine ⟨_, pss_cons (ps_set (i := 1) sc_tidy.nd rfl (Or.inl rfl) (pe_lst pa_nil)) (pss_cons (ps_for PassesOwn.never rfl (pi_list (pv 0)) (pg_tup rfl (pgs_cons (pg_name (i := 2) sc_tidy.nd rfl (Or.inl rfl)) (pgs_cons (pg_name (i := 3) sc_tidy.nd rfl (Or.inl rfl)) pgs_nil))) (pss_cons (ps_if (PW.pt (pw_and (pt_truthK (K := K) rfl (pv 1) (fun _ => rfl)) (pw_and1 (pt_cmpN op_eq (pe_ix (r := rIxT K) ix_tup (pe_ix (r := rIxL K) ix_list (pv 1) (pe_un un_neg pe_int) (fun _ _ => rfl)) pe_int (fun _ _ => rfl)) (pv 2))))) (pss_cons (ps_expr (pe_bm PySem.F.plainAttrs_list PySem.F.slot_list_append PySem.F.type_list_append mt_append (pe_ix (r := rIxT K) ix_tup (pe_ix (r := rIxL K) ix_list (pv 1) (pe_un un_neg pe_int) (fun _ _ => rfl)) pe_int (fun _ _ => rfl)) (pa_cons (pv 3) pa_nil))) pss_nil) (pss_cons (ps_expr (pe_bm PySem.F.plainAttrs_list PySem.F.slot_list_append PySem.F.type_list_append mt_append (pv 1) (pa_cons (pe_tup (pa_cons (pv 2) (pa_cons (pe_lst (pa_cons (pv 3) pa_nil)) pa_nil))) pa_nil))) pss_nil)) pss_nil)) (pss_cons (ps_ret (pe_lc (own := [("mode", 2), ("signs", 4)]) rfl sc_tidy.nd (pi_list (pv 1)) (blkOk_by (N := ["told", "runs", "mode", "sign", "signs"]) (sc := defScope s_tidy) (by decide +kernel)) (fun _ _ _ _ _ => show PG _ _ (gTup K 2 (gCons (gName 2) (gCons (gName 4) gNil))) from pg_tup rfl (pgs_cons (pg_name (i := 2) sc_tidy.nd rfl (Or.inl rfl) (Or.inr rfl)) (pgs_cons (pg_name (i := 4) sc_tidy.nd rfl (Or.inl rfl) (Or.inr rfl)) pgs_nil))) (fun _ _ _ _ _ => pts_nil) (fun _ _ _ _ _ => pe_tup (pa_cons (pv 2) (pa_cons (show PE _ _ (tBM K "str" (rJoin K) (tC (.str "")) (tCons (tVar 4) tNil)) from pe_bm PySem.F.plainAttrs_str PySem.F.slot_str_join PySem.F.type_str_join mtJoin (pe_str) (pa_cons (pv 4) (pa_nil))) (pa_nil)))))) pss_nil)), ?_⟩
  refine @run_body K ((List (Tx × Tx)) × Unit) (List (Tx × Tx)) Unit Unit _ _ f0 (fun x => m_tidy x.1) (fun x => mb_tidy x.1) (fun _ _ => [.un, .un, .un, .un, .un]) _ ["told", "runs", "mode", "sign", "signs"] 0 vs H Q E h (fun _ => rfl) 5 1 (fun _ => rfl) rfl rfl (by decide) (fun x => ?_)
  obtain ⟨v_told, _⟩ := x
  show Ss K _ [Sl.of K v_told, .un, .un, .un, .un] f0 f0 (mb_tidy v_told) _
  exact ss_tidy (iR := 1) (iM := 2) (iS := 3) (ei_list (es_var (i := 0) rfl)) rfl rfl rfl (by decide) (by decide) (by decide) (fun rs1 => ss_last (ss_ret (es_lc (vs := [2, 4]) (ei_list (es_var (i := 1) rfl)) tg_pair (tgw_pair (by decide) (by decide)) (fun x2 => et_yes) (fun x2 => es_tup2 (ea_cons (es_var (i := 2) rfl) (ea_cons (es_bm mt2_join (es_str (by decide +kernel)) (ea_cons (es_var (i := 4) rfl) (ea_nil))) (ea_nil)))))))

theorem ok_kind (R : Raw K mg "kind" ["mode", "sign"] s_kind) (T : Txt K mg) : Df P w K mg base "kind" 1 ["mode", "sign"] (sp K (α := (Tx × (Tx × Unit))) f0 (fun x => m_kind x.1 x.2.1)) := by
  obtain ⟨u_WIDE, c_WIDE, r_WIDE⟩ := T.c_WIDE
  obtain ⟨f, fd, Fn, hm, hk, hb⟩ := R.ex
  refine ⟨f, fd, Fn.ok sc_kind (sp_len (n := 2) fun _ => rfl) (fun cdv A outer s H vs Q E hr h => ?_), hm, hk, hb⟩
  refine ⟨_, pss_cons (ps_if (pt_cmpN op_eq (pv 1) (pe_str)) (pss_cons (ps_ret (pe_ifExp (pt_cmpN op_eq (pv 0) (pe_str)) (pe_str) (pe_str))) pss_nil) (pss_nil)) (pss_cons (ps_if (pt_cmpN op_eq (pv 1) (pe_str)) (pss_cons (ps_ret (pe_ifExp (pt_cmpN op_eq (pv 0) (pe_str)) (pe_str) (pe_str))) pss_nil) (pss_nil)) (pss_cons (ps_if (pt_cmpN op_eq (pv 1) (pe_str)) (pss_cons (ps_ret (pe_str)) pss_nil) (pss_nil)) (pss_cons (ps_if (pt_cmpN op_eq (pv 1) (pe_str)) (pss_cons (ps_ret (pe_str)) pss_nil) (pss_nil)) (pss_cons (ps_if (pt_cmpIn opInC (pv 1) (pe_str)) (pss_cons (ps_ret (pe_str)) pss_nil) (pss_nil)) (pss_cons (ps_ret (pe_ifExp (pt_cmpIn opInC (pv 1) (pe_glob rfl c_WIDE r_WIDE)) (pe_str) (pe_str))) pss_nil))))), ?_⟩
  refine @run_body K (Tx × (Tx × Unit)) Tx Unit Unit _ _ f0 (fun x => m_kind x.1 x.2.1) (fun x => mb_kind x.1 x.2.1) (fun _ _ => [.un, .un]) _ ["mode", "sign"] 0 vs H Q E h (fun _ => rfl) 2 2 (fun _ => rfl) rfl rfl (by decide) (fun x => ?_)
  obtain ⟨v_mode, v_sign, _⟩ := x
  show Ss K _ [Sl.of K v_mode, Sl.of K v_sign] f0 f0 (mb_kind v_mode v_sign) _
  exact ss_then (e1 := (fun g1 : Unit => [Sl.of K v_mode, Sl.of K v_sign])) (ss_if (et_test (K := K) (es_op o2_eqS (es_var (i := 1) rfl) (es_str (by decide +kernel)))) (ss_last (ss_ret (es_if (et_test (K := K) (es_op o2_eqS (es_var (i := 0) rfl) (es_str (by decide +kernel)))) (es_str (by decide +kernel)) (es_str (by decide +kernel))))) (ss_nx ⟨.inr rfl, ⟨.inr rfl, trivial⟩⟩)) (fun g1 => ss_then (e1 := (fun g2 : Unit => [Sl.of K v_mode, Sl.of K v_sign])) (ss_if (et_test (K := K) (es_op o2_eqS (es_var (i := 1) rfl) (es_str (by decide +kernel)))) (ss_last (ss_ret (es_if (et_test (K := K) (es_op o2_eqS (es_var (i := 0) rfl) (es_str (by decide +kernel)))) (es_str (by decide +kernel)) (es_str (by decide +kernel))))) (ss_nx ⟨.inr rfl, ⟨.inr rfl, trivial⟩⟩)) (fun g2 => ss_then (e1 := (fun g3 : Unit => [Sl.of K v_mode, Sl.of K v_sign])) (ss_if (et_test (K := K) (es_op o2_eqS (es_var (i := 1) rfl) (es_str (by decide +kernel)))) (ss_last (ss_ret (es_str (by decide +kernel)))) (ss_nx ⟨.inr rfl, ⟨.inr rfl, trivial⟩⟩)) (fun g3 => ss_then (e1 := (fun g4 : Unit => [Sl.of K v_mode, Sl.of K v_sign])) (ss_if (et_test (K := K) (es_op o2_eqS (es_var (i := 1) rfl) (es_str (by decide +kernel)))) (ss_last (ss_ret (es_str (by decide +kernel)))) (ss_nx ⟨.inr rfl, ⟨.inr rfl, trivial⟩⟩)) (fun g4 => ss_then (e1 := (fun g5 : Unit => [Sl.of K v_mode, Sl.of K v_sign])) (ss_if (et_test (K := K) (es_op o2_inS (es_var (i := 1) rfl) (es_str (by decide +kernel)))) (ss_last (ss_ret (es_str (by decide +kernel)))) (ss_nx ⟨.inr rfl, ⟨.inr rfl, trivial⟩⟩)) (fun g5 => ss_last (ss_ret (es_if (et_test (K := K) (es_op o2_inS (es_var (i := 1) rfl) (es_str (by decide +kernel)))) (es_str (by decide +kernel)) (es_str (by decide +kernel))))) (fun _ => ⟨0, rfl⟩)) (fun _ => ⟨0, rfl⟩)) (fun _ => ⟨0, rfl⟩)) (fun _ => ⟨0, rfl⟩)) (fun _ => ⟨0, rfl⟩)

theorem ok_kinds (R : Raw K mg "kinds" ["told"] s_kinds) (T : Txt K mg) (D_kind : Df P w K mg base "kind" 1 ["mode", "sign"] (sp K (α := (Tx × (Tx × Unit))) f0 (fun x => m_kind x.1 x.2.1))) : Df P w K mg base "kinds" 2 ["told"] (sp K (α := ((List (Tx × Tx)) × Unit)) f0 (fun x => m_kinds x.1)) := by
  obtain ⟨f_kind, fd_kind, g_kind, m_g_kind, k_g_kind, b_g_kind⟩ := D_kind.ex
  obtain ⟨f, fd, Fn, hm, hk, hb⟩ := R.ex
  refine ⟨f, fd, Fn.ok sc_kinds (sp_len (n := 1) fun _ => rfl) (fun cdv A outer s H vs Q E hr h => ?_), hm, hk, hb⟩
  refine ⟨_, pss_cons (ps_ret (pe_lc (own := [("mode", 1), ("sign", 2)]) rfl sc_kinds.nd (pi_list (pv 0)) (blkOk_by (N := ["told", "mode", "sign"]) (sc := defScope s_kinds) (by decide +kernel)) (fun _ _ _ _ _ => show PG _ _ (gTup K 2 (gCons (gName 1) (gCons (gName 2) gNil))) from pg_tup rfl (pgs_cons (pg_name (i := 1) sc_kinds.nd rfl (Or.inl rfl) (Or.inr rfl)) (pgs_cons (pg_name (i := 2) sc_kinds.nd rfl (Or.inl rfl) (Or.inr rfl)) pgs_nil))) (fun _ _ _ _ _ => pts_nil) (fun _ _ _ _ _ => pe_call g_kind (hr.mono (by decide)) rfl m_g_kind k_g_kind b_g_kind .nil pass0 (pa_cons (pv 1) (pa_cons (pv 2) (pa_nil)))))) pss_nil, ?_⟩
  refine @run_body K ((List (Tx × Tx)) × Unit) (List Tx) Unit Unit _ _ f0 (fun x => m_kinds x.1) (fun x => mb_kinds x.1) (fun _ _ => [.un, .un, .un]) _ ["told", "mode", "sign"] 0 vs H Q E h (fun _ => rfl) 3 1 (fun _ => rfl) rfl rfl (by decide) (fun x => ?_)
  obtain ⟨v_told, _⟩ := x
  show Ss K _ [Sl.of K v_told, .un, .un] f0 f0 (mb_kinds v_told) _
  exact ss_last (ss_ret (es_lc (vs := [1, 2]) (ei_list (es_var (i := 0) rfl)) tg_pair (tgw_pair (by decide) (by decide)) (fun x1 => et_yes) (fun x1 => es_callP (ea_cons (es_var (i := 1) rfl) (ea_cons (es_var (i := 2) rfl) (ea_nil))))))

theorem ok_is_solid (R : Raw K mg "is_solid" ["one"] s_is_solid) (T : Txt K mg) : Df P w K mg base "is_solid" 1 ["one"] (sp K (α := (Tx × Unit)) f0 (fun x => m_is_solid x.1)) := by
  obtain ⟨f, fd, Fn, hm, hk, hb⟩ := R.ex
  refine ⟨f, fd, Fn.ok sc_is_solid (sp_len (n := 1) fun _ => rfl) (fun cdv A outer s H vs Q E hr h => ?_), hm, hk, hb⟩
  refine ⟨_, pss_cons (ps_ret (pe_cmpIn (r := rIn K true) op_notIn_seq (pv 0) (pe_tup (pa_cons (pe_str) (pa_cons (pe_str) (pa_cons (pe_str) (pa_nil))))))) pss_nil, ?_⟩
  refine @run_body K (Tx × Unit) Bool Unit Unit _ _ f0 (fun x => m_is_solid x.1) (fun x => mb_is_solid x.1) (fun _ _ => [.un]) _ ["one"] 0 vs H Q E h (fun _ => rfl) 1 1 (fun _ => rfl) rfl rfl (by decide) (fun x => ?_)
  obtain ⟨v_one, _⟩ := x
  show Ss K _ [Sl.of K v_one] f0 f0 (mb_is_solid v_one) _
  exact ss_last (ss_ret (es_op o2_notInT (es_var (i := 0) rfl) (es_tpl (el_cons (es_str (by decide +kernel)) (el_cons (es_str (by decide +kernel)) (el_cons (es_str (by decide +kernel)) (el_nil)))))))

theorem ok_Gap___init (R : RawGap K mg s_Gap___init) : DfGap P w K mg base := by
  obtain ⟨C, f, fd, T, M, F, hm, hb⟩ := R.ex
  refine ⟨C, f, fd, T, M, F.ok sc_Gap___init (fun vs H Q E h => ?_) (fun cdv A outer s H vs Q E hr h => ⟨tGpInit K, ?_, pure_gpInit T vs H Q E h⟩), hm, hb⟩
  · obtain ⟨p, dx, l, r, n, rfl, _⟩ := h
    rfl
  · exact pss_cons (ps_fld (pv 0) (pv 1) rfl) (pss_cons (ps_fld (pv 0) (pv 2) rfl) (pss_one (ps_fld (pv 0) (pv 3) rfl)))

theorem ok_gaps_of (R : Raw K mg "gaps_of" ["told", "border"] s_gaps_of) (T : Txt K mg) (D_is_solid : Df P w K mg base "is_solid" 1 ["one"] (sp K (α := (Tx × Unit)) f0 (fun x => m_is_solid x.1))) (D_Gap___init : DfGap P w K mg base) : Df P w K mg base "gaps_of" 3 ["told", "border"] (sp K (α := ((List Tx) × ((Option Tx) × Unit))) f0 (fun x => m_gaps_of x.1 x.2.1)) := by
  obtain ⟨f_is_solid, fd_is_solid, g_is_solid, m_g_is_solid, k_g_is_solid, b_g_is_solid⟩ := D_is_solid.ex
  obtain ⟨C_Gap, f_Gap, fd_Gap, T_Gap, M_Gap, F_Gap, m_Gap, b_Gap⟩ := D_Gap___init.ex
  obtain ⟨f, fd, Fn, hm, hk, hb⟩ := R.ex
  refine ⟨f, fd, Fn.ok sc_gaps_of (sp_len (n := 2) fun _ => rfl) (fun cdv A outer s H vs Q E hr h => ?_), hm, hk, hb⟩
  refine ⟨_, pss_cons (ps_set (i := 2) sc_gaps_of.nd rfl (Or.inl rfl) (pe_lst pa_nil)) (pss_cons (ps_set (i := 3) sc_gaps_of.nd rfl (Or.inl rfl) (pv 1)) (pss_cons (ps_set (i := 4) sc_gaps_of.nd rfl (Or.inl rfl) (pe_lst pa_nil)) (pss_cons (ps_for PassesOwn.never rfl (pi_enum (by rfl) T.b_enumerate (pa_cons (pv 0) (pa_nil))) (pg_tup rfl (pgs_cons (pg_name (i := 5) sc_gaps_of.nd rfl (Or.inl rfl)) (pgs_cons (pg_name (i := 6) sc_gaps_of.nd rfl (Or.inl rfl)) pgs_nil))) (pss_cons (ps_if (pt_truthK (K := K) rfl (pe_call g_is_solid (hr.mono (by decide)) rfl m_g_is_solid k_g_is_solid b_g_is_solid .nil pass0 (pa_cons (pv 6) (pa_nil))) (fun _ => rfl)) (pss_cons (ps_expr (pe_bm PySem.F.plainAttrs_list PySem.F.slot_list_append PySem.F.type_list_append mt_append (pv 2) (pa_cons (pe_make M_Gap F_Gap (hr.mono (by decide)) rfl m_Gap b_Gap .nil pass0 (pa_cons (pv 3) (pa_cons (pv 6) (pa_cons (pv 4) (pa_nil))))) pa_nil))) (pss_cons (ps_set (i := 3) sc_gaps_of.nd rfl (Or.inl rfl) (pv 6)) (pss_cons (ps_set (i := 4) sc_gaps_of.nd rfl (Or.inl rfl) (pe_lst pa_nil)) (pss_nil)))) (pss_cons (ps_expr (pe_bm PySem.F.plainAttrs_list PySem.F.slot_list_append PySem.F.type_list_append mt_append (pv 4) (pa_cons (pv 5) pa_nil))) (pss_nil))) pss_nil)) (pss_cons (ps_expr (pe_bm PySem.F.plainAttrs_list PySem.F.slot_list_append PySem.F.type_list_append mt_append (pv 2) (pa_cons (pe_make M_Gap F_Gap (hr.mono (by decide)) rfl m_Gap b_Gap .nil pass0 (pa_cons (pv 3) (pa_cons (pv 1) (pa_cons (pv 4) (pa_nil))))) pa_nil))) (pss_cons (ps_ret (pv 2)) pss_nil))))), ?_⟩
  refine @run_body K ((List Tx) × ((Option Tx) × Unit)) (List Gp) Unit Unit _ _ f0 (fun x => m_gaps_of x.1 x.2.1) (fun x => mb_gaps_of x.1 x.2.1) (fun _ _ => [.un, .un, .un, .un, .un, .un, .un]) _ ["told", "border", "found", "left", "numbers", "k", "one"] 0 vs H Q E h (fun _ => rfl) 7 2 (fun _ => rfl) rfl rfl (by decide) (fun x => ?_)
  obtain ⟨v_told, v_border, _⟩ := x
  show Ss K _ [Sl.of K v_told, Sl.of K v_border, .un, .un, .un, .un, .un] f0 f0 (mb_gaps_of v_told v_border) _
  exact ss_new (α := Gp) (i := 2) (k := 0) (fun _ => rfl) (fun _ => Nat.le_of_ble_eq_true rfl) (ss_asg (es_var (i := 1) rfl) tg_name fun v_left_1 => ss_new (α := Int) (i := 4) (k := 1) (fun _ => rfl) (fun _ => Nat.le_of_ble_eq_true rfl) (ss_forX (j := 1) (c0 := v_left_1) (eN := (fun c2 : (Option Tx) => [Sl.of K v_told, Sl.of K v_border, .own 0, Sl.of K c2, .own 1, .un, .un])) (ei_enum (ea_cons (es_var (i := 0) rfl) (ea_nil))) ⟨.inr rfl, ⟨.inr rfl, ⟨.inr rfl, ⟨.inr rfl, ⟨.inr rfl, ⟨.inl rfl, ⟨.inl rfl, trivial⟩⟩⟩⟩⟩⟩⟩ (fun _ => tg_pair) (fun c2 x3 => sx_last (sx_if (et_tru tru_bl (es_callP (ea_cons (es_var (i := 6) rfl) (ea_nil)))) (sx_frz (i := 4) (k := 1) rfl (fun _ => rfl) rfl (by decide) (fun l4 => sx_app (i := 2) (k := 0) rfl (fun _ => rfl) (fun _ _ => rfl) (es_gp T_Gap (ea_cons (es_var (i := 3) rfl) (ea_cons (es_cast cast_some (es_var (i := 6) rfl)) (ea_cons (es_var (i := 4) rfl) (ea_nil))))) (sx_asg (es_cast cast_some (es_var (i := 6) rfl)) tg_name fun v_left_5 => sx_new (α := Int) (i := 4) (k := 1) (fun _ => rfl) (by decide) (sx_end ⟨.inr rfl, ⟨.inr rfl, ⟨.inr rfl, ⟨.inr rfl, ⟨.inr rfl, ⟨.inl rfl, ⟨.inl rfl, trivial⟩⟩⟩⟩⟩⟩⟩)))) (sx_app (i := 4) (k := 1) rfl (fun _ => rfl) (fun _ _ => rfl) (es_var (i := 5) rfl) (sx_end ⟨.inr rfl, ⟨.inr rfl, ⟨.inr rfl, ⟨.inr rfl, ⟨.inr rfl, ⟨.inl rfl, ⟨.inl rfl, trivial⟩⟩⟩⟩⟩⟩⟩)))) (fun _ => Nat.le_of_ble_eq_true rfl) (fun g6 => ss_frz (i := 4) (k := 1) rfl (fun _ => rfl) rfl (fun _ => Nat.le_of_ble_eq_true rfl) (fun l7 => ss_app (i := 2) (k := 0) rfl (fun _ => rfl) (fun _ _ => rfl) (es_gp T_Gap (ea_cons (es_var (i := 3) rfl) (ea_cons (es_var (i := 1) rfl) (ea_cons (es_var (i := 4) rfl) (ea_nil))))) (ss_frz (i := 2) (k := 0) rfl (fun _ => rfl) rfl (fun _ => Nat.le_of_ble_eq_true rfl) (fun l8 => ss_last (ss_ret (es_var (i := 2) rfl))))))))

theorem ok_join (R : Raw K mg "join" ["left", "right"] s_join) (T : Txt K mg) : Df P w K mg base "join" 1 ["left", "right"] (sp K (α := ((Option Tx) × ((Option Tx) × Unit))) f0 (fun x => m_join x.1 x.2.1)) := by
  obtain ⟨f, fd, Fn, hm, hk, hb⟩ := R.ex
  refine ⟨f, fd, Fn.ok sc_join (sp_len (n := 2) fun _ => rfl) (fun cdv A outer s H vs Q E hr h => ?_), hm, hk, hb⟩
  refine ⟨_, pss_cons (ps_if (PW.pt (pw_or (pt_cmpN opIsNon (pv 0) (pe_non)) (pw_or1 (pt_cmpN opIsNon (pv 1) (pe_non))))) (pss_cons (ps_ret (pe_bl)) pss_nil) (pss_nil)) (pss_cons (ps_ret (pe_or (pe_cmpIn (r := rIn K false) op_in_seq (pe_str) (pe_tup (pa_cons (pv 0) (pa_cons (pv 1) (pa_nil))))) (pe_one (pe_and (pe_cmpN op_eq (pv 0) (pe_str)) (pe_one (pe_cmpN op_eq (pv 1) (pe_str))))))) pss_nil), ?_⟩
  refine @run_body K ((Option Tx) × ((Option Tx) × Unit)) Bool Unit Unit _ _ f0 (fun x => m_join x.1 x.2.1) (fun x => mb_join x.1 x.2.1) (fun _ _ => [.un, .un]) _ ["left", "right"] 0 vs H Q E h (fun _ => rfl) 2 2 (fun _ => rfl) rfl rfl (by decide) (fun x => ?_)
  obtain ⟨v_left, v_right, _⟩ := x
  show Ss K _ [Sl.of K v_left, Sl.of K v_right] f0 f0 (mb_join v_left v_right) _
  exact ss_then (e1 := (fun g1 : Unit => [Sl.of K v_left, Sl.of K v_right])) (ss_if (et_or (et_test (K := K) (es_op o2_isN (es_var (i := 0) rfl) (es_non))) (et_test (K := K) (es_op o2_isN (es_var (i := 1) rfl) (es_non)))) (ss_last (ss_ret (es_bl))) (ss_nx ⟨.inr rfl, ⟨.inr rfl, trivial⟩⟩)) (fun g1 => ss_last (ss_ret (es_orV (es_op o2_inT (es_str (by decide +kernel)) (es_tpl (el_cons (es_var (i := 0) rfl) (el_cons (es_var (i := 1) rfl) (el_nil))))) (es_andV (es_op o2_eqS (es_var (i := 0) rfl) (es_str (by decide +kernel))) (es_op o2_eqS (es_var (i := 1) rfl) (es_str (by decide +kernel))))))) (fun _ => ⟨0, rfl⟩)

theorem ok_white_of (R : Raw K mg "white_of" ["told", "gap"] s_white_of) (T : Txt K mg) (D_join : Df P w K mg base "join" 1 ["left", "right"] (sp K (α := ((Option Tx) × ((Option Tx) × Unit))) f0 (fun x => m_join x.1 x.2.1))) : Df P w K mg base "white_of" 2 ["told", "gap"] (sp K (α := ((List Tx) × (Gp × Unit))) f0 (fun x => m_white_of x.1 x.2.1)) := by
  obtain ⟨f_join, fd_join, g_join, m_g_join, k_g_join, b_g_join⟩ := D_join.ex
  obtain ⟨f, fd, Fn, hm, hk, hb⟩ := R.ex
  refine ⟨f, fd, Fn.ok sc_white_of (sp_len (n := 2) fun _ => rfl) (fun cdv A outer s H vs Q E hr h => ?_), hm, hk, hb⟩
  refine ⟨_, pss_cons (ps_if (pt_cmpIn (r := rIn K false) op_in_seq (pe_str) (pe_tup (pa_cons (pe_fld (pv 1) rfl) (pa_cons (pe_fld (pv 1) rfl) (pa_nil))))) (pss_cons (ps_ret (pe_non)) pss_nil) (pss_nil)) (pss_cons (ps_setLc (i := 2) (own := [("k", 4)]) rfl sc_white_of.nd rfl rfl (sw_true rfl rfl rfl (by decide +kernel)) (pi_list (pe_fld (pv 1) rfl)) (blkOk_by (N := ["told", "gap", "feeds", "spaces", "k"]) (sc := defScope s_white_of) (by decide +kernel)) (fun _ _ _ _ _ => pg_name (i := 4) sc_white_of.nd rfl (Or.inl rfl)) (fun _ _ _ _ _ => pts_one (pt_cmpN op_eq (pe_ix (r := rIxL K) ix_list (pv 0) (pv 4) (fun _ _ => rfl)) (pe_str))) (fun _ _ _ _ _ => pv 4)) (pss_cons (ps_if (pt_truthK (K := K) rfl (pv 2) (fun _ => rfl)) (pss_cons (ps_ret (pe_ifExp (pt_truthK (K := K) rfl (pe_call g_join (hr.mono (by decide)) rfl m_g_join k_g_join b_g_join .nil pass0 (pa_cons (pe_fld (pv 1) rfl) (pa_cons (pe_fld (pv 1) rfl) (pa_nil)))) (fun _ => rfl)) (pe_non) (pe_ix (r := rIxL K) ix_list (pv 2) (pe_int) (fun _ _ => rfl)))) pss_nil) (pss_nil)) (pss_cons (ps_setLc (i := 3) (own := [("k", 4)]) rfl sc_white_of.nd rfl rfl (sw_true rfl rfl rfl (by decide +kernel)) (pi_list (pe_fld (pv 1) rfl)) (blkOk_by (N := ["told", "gap", "feeds", "spaces", "k"]) (sc := defScope s_white_of) (by decide +kernel)) (fun _ _ _ _ _ => pg_name (i := 4) sc_white_of.nd rfl (Or.inl rfl)) (fun _ _ _ _ _ => pts_one (pt_cmpN op_eq (pe_ix (r := rIxL K) ix_list (pv 0) (pv 4) (fun _ _ => rfl)) (pe_str))) (fun _ _ _ _ _ => pv 4)) (pss_cons (ps_ret (pe_ifExp (pt_truthK (K := K) rfl (pv 3) (fun _ => rfl)) (pe_ix (r := rIxL K) ix_list (pv 3) (pe_int) (fun _ _ => rfl)) (pe_non))) pss_nil)))), ?_⟩
  refine @run_body K ((List Tx) × (Gp × Unit)) (Option Int) Unit Unit _ _ f0 (fun x => m_white_of x.1 x.2.1) (fun x => mb_white_of x.1 x.2.1) (fun _ _ => [.un, .un, .un, .un, .un]) _ ["told", "gap", "feeds", "spaces", "k"] 0 vs H Q E h (fun _ => rfl) 5 2 (fun _ => rfl) rfl rfl (by decide) (fun x => ?_)
  obtain ⟨v_told, v_gap, _⟩ := x
  show Ss K _ [Sl.of K v_told, Sl.of K v_gap, .un, .un, .un] f0 f0 (mb_white_of v_told v_gap) _
  exact ss_then (e1 := (fun g1 : Unit => [Sl.of K v_told, Sl.of K v_gap, .un, .un, .un])) (ss_if (et_test (K := K) (es_op o2_inT (es_str (by decide +kernel)) (es_tpl (el_cons (es_gpl (es_var (i := 1) rfl)) (el_cons (es_gpr (es_var (i := 1) rfl)) (el_nil)))))) (ss_last (ss_ret (es_noneO))) (ss_nx ⟨.inr rfl, ⟨.inr rfl, ⟨.inl rfl, ⟨.inl rfl, ⟨.inl rfl, trivial⟩⟩⟩⟩⟩)) (fun g1 => ss_asg (es_lc (vs := [4]) (ei_list (es_gpn (es_var (i := 1) rfl))) tg_name (tgw_name (by decide)) (fun x2 => et_test (K := K) (es_op o2_eqS (es_op o2_ixL (es_var (i := 0) rfl) (es_var (i := 4) rfl)) (es_str (by decide +kernel)))) (fun x2 => es_var (i := 4) rfl)) tg_name fun v_feeds_3 => ss_then (e1 := (fun g4 : Unit => [Sl.of K v_told, Sl.of K v_gap, Sl.of K v_feeds_3, .un, .un])) (ss_if (et_tru tru_list (es_var (i := 2) rfl)) (ss_last (ss_ret (es_if (et_tru tru_bl (es_callP (ea_cons (es_gpl (es_var (i := 1) rfl)) (ea_cons (es_gpr (es_var (i := 1) rfl)) (ea_nil))))) (es_noneO) (es_cast cast_some (es_op o2_ixL (es_var (i := 2) rfl) (es_int)))))) (ss_nx ⟨.inr rfl, ⟨.inr rfl, ⟨.inr rfl, ⟨.inl rfl, ⟨.inl rfl, trivial⟩⟩⟩⟩⟩)) (fun g4 => ss_asg (es_lc (vs := [4]) (ei_list (es_gpn (es_var (i := 1) rfl))) tg_name (tgw_name (by decide)) (fun x5 => et_test (K := K) (es_op o2_eqS (es_op o2_ixL (es_var (i := 0) rfl) (es_var (i := 4) rfl)) (es_str (by decide +kernel)))) (fun x5 => es_var (i := 4) rfl)) tg_name fun v_spaces_6 => ss_last (ss_ret (es_if (et_tru tru_list (es_var (i := 3) rfl)) (es_cast cast_some (es_op o2_ixL (es_var (i := 3) rfl) (es_int))) (es_noneO)))) (fun _ => ⟨0, rfl⟩)) (fun _ => ⟨0, rfl⟩)

theorem ok_counting (R : Raw K mg "counting" ["told", "border"] s_counting) (T : Txt K mg) (D_gaps_of : Df P w K mg base "gaps_of" 3 ["told", "border"] (sp K (α := ((List Tx) × ((Option Tx) × Unit))) f0 (fun x => m_gaps_of x.1 x.2.1))) (D_white_of : Df P w K mg base "white_of" 2 ["told", "gap"] (sp K (α := ((List Tx) × (Gp × Unit))) f0 (fun x => m_white_of x.1 x.2.1))) : Df P w K mg base "counting" 4 ["told", "border"] (sp K (α := ((List Tx) × ((Option Tx) × Unit))) f0 (fun x => m_counting x.1 x.2.1)) := by
  obtain ⟨f_gaps_of, fd_gaps_of, g_gaps_of, m_g_gaps_of, k_g_gaps_of, b_g_gaps_of⟩ := D_gaps_of.ex
  obtain ⟨f_white_of, fd_white_of, g_white_of, m_g_white_of, k_g_white_of, b_g_white_of⟩ := D_white_of.ex
  letI : Rep K DN := repDN K P w
  obtain ⟨f, fd, Fn, hm, hk, hb⟩ := R.ex
  refine ⟨f, fd, Fn.ok sc_counting (sp_len (n := 2) fun _ => rfl) (fun cdv A outer s H vs Q E hr h => ?_), hm, hk, hb⟩
  refine ⟨_, pss_cons (ps_set (i := 2) sc_counting.nd rfl (Or.inr rfl) (pe_dcN (own := [("gap", 3)]) rfl sc_counting.nd (pi_list (pe_call g_gaps_of (hr.mono (by decide)) rfl m_g_gaps_of k_g_gaps_of b_g_gaps_of .nil pass0 (pa_cons (pv 0) (pa_cons (pv 1) (pa_nil))))) (blkOk_by (N := ["told", "border", "whites", "gap", "k", "one"]) (sc := defScope s_counting) (by decide +kernel)) (fun _ _ _ _ _ => pg_name (i := 3) sc_counting.nd rfl (Or.inl rfl)) (fun _ _ _ _ _ => pts_nil) (fun _ _ _ _ _ => pe_call g_white_of (hr.mono (by decide)) rfl m_g_white_of k_g_white_of b_g_white_of .nil pass0 (pa_cons (pv 0) (pa_cons (pv 3) (pa_nil)))) (fun _ _ _ _ _ => pe_bl))) (pss_cons (ps_ret (pe_lc (own := [("k", 4), ("one", 5)]) rfl sc_counting.nd (pi_enum (by rfl) T.b_enumerate (pa_cons (pv 0) (pa_nil))) (blkOk_by (N := ["told", "border", "whites", "gap", "k", "one"]) (sc := defScope s_counting) (by decide +kernel)) (fun _ _ _ _ _ => show PG _ _ (gTup K 2 (gCons (gName 4) (gCons (gName 5) gNil))) from pg_tup rfl (pgs_cons (pg_name (i := 4) sc_counting.nd rfl (Or.inl rfl) (Or.inr rfl)) (pgs_cons (pg_name (i := 5) sc_counting.nd rfl (Or.inl rfl) (Or.inr rfl)) pgs_nil))) (fun _ _ _ _ _ => pts_one (PW.pt (pw_or (pt_cmpIn (r := rIn K true) op_notIn_seq (pv 5) (pe_tup (pa_cons (pe_str) (pa_cons (pe_str) (pa_nil))))) (pw_or1 (pt_cmpIn (r := rInN P w) op_inN (pv 4) (pv 2)))))) (fun _ _ _ _ _ => pv 4))) pss_nil), ?_⟩
  refine @run_body K ((List Tx) × ((Option Tx) × Unit)) (List Int) Unit Unit _ _ f0 (fun x => m_counting x.1 x.2.1) (fun x => mb_counting x.1 x.2.1) (fun _ _ => [.un, .un, .un, .un, .un, .un]) _ ["told", "border", "whites", "gap", "k", "one"] 0 vs H Q E h (fun _ => rfl) 6 2 (fun _ => rfl) rfl rfl (by decide) (fun x => ?_)
  obtain ⟨v_told, v_border, _⟩ := x
  show Ss K _ [Sl.of K v_told, Sl.of K v_border, .un, .un, .un, .un] f0 f0 (mb_counting v_told v_border) _
  exact ss_asg (es_dcN (vs := [3]) (ei_list (es_callP (ea_cons (es_var (i := 0) rfl) (ea_cons (es_var (i := 1) rfl) (ea_nil))))) tg_name (tgw_name (by decide)) (fun x1 => es_callP (ea_cons (es_var (i := 0) rfl) (ea_cons (es_var (i := 3) rfl) (ea_nil)))) (fun x1 => es_bl)) tg_name fun v_whites_2 => ss_last (ss_ret (es_lc (vs := [4, 5]) (ei_enum (ea_cons (es_var (i := 0) rfl) (ea_nil))) tg_pair (tgw_pair (by decide) (by decide)) (fun x3 => et_or (et_test (K := K) (es_op o2_notInT (es_var (i := 5) rfl) (es_tpl (el_cons (es_str (by decide +kernel)) (el_cons (es_str (by decide +kernel)) (el_nil)))))) (et_test (K := K) (es_op (o2_inN (P := P) (w := w)) (es_var (i := 4) rfl) (es_var (i := 2) rfl)))) (fun x3 => es_var (i := 4) rfl)))

theorem ok_sign_shown (R : Raw K mg "sign_shown" ["one", "sign"] s_sign_shown) (T : Txt K mg) : Df P w K mg base "sign_shown" 1 ["one", "sign"] (sp K (α := (Tx × (Tx × Unit))) f0 (fun x => m_sign_shown x.1 x.2.1)) := by
  obtain ⟨f, fd, Fn, hm, hk, hb⟩ := R.ex
  refine ⟨f, fd, Fn.ok sc_sign_shown (sp_len (n := 2) fun _ => rfl) (fun cdv A outer s H vs Q E hr h => ?_), hm, hk, hb⟩
  refine ⟨_, pss_cons (ps_if (pt_cmpN op_eq (pv 0) (pe_str)) (pss_cons (ps_ret (pe_str)) pss_nil) (pss_nil)) (pss_cons (ps_ret (pe_ifExp (pt_cmpIn (r := rIn K false) op_in_seq (pv 0) (pe_tup (pa_cons (pe_str) (pa_cons (pe_str) (pa_nil))))) (pe_str) (pv 1))) pss_nil), ?_⟩
  refine @run_body K (Tx × (Tx × Unit)) Tx Unit Unit _ _ f0 (fun x => m_sign_shown x.1 x.2.1) (fun x => mb_sign_shown x.1 x.2.1) (fun _ _ => [.un, .un]) _ ["one", "sign"] 0 vs H Q E h (fun _ => rfl) 2 2 (fun _ => rfl) rfl rfl (by decide) (fun x => ?_)
  obtain ⟨v_one, v_sign, _⟩ := x
  show Ss K _ [Sl.of K v_one, Sl.of K v_sign] f0 f0 (mb_sign_shown v_one v_sign) _
  exact ss_then (e1 := (fun g1 : Unit => [Sl.of K v_one, Sl.of K v_sign])) (ss_if (et_test (K := K) (es_op o2_eqS (es_var (i := 0) rfl) (es_str (by decide +kernel)))) (ss_last (ss_ret (es_str (by decide +kernel)))) (ss_nx ⟨.inr rfl, ⟨.inr rfl, trivial⟩⟩)) (fun g1 => ss_last (ss_ret (es_if (et_test (K := K) (es_op o2_inT (es_var (i := 0) rfl) (es_tpl (el_cons (es_str (by decide +kernel)) (el_cons (es_str (by decide +kernel)) (el_nil)))))) (es_str (by decide +kernel)) (es_var (i := 1) rfl)))) (fun _ => ⟨0, rfl⟩)

theorem ok_shown_units (R : Raw K mg "shown_units" ["content"] s_shown_units) (T : Txt K mg) (D_kinds : Df P w K mg base "kinds" 2 ["told"] (sp K (α := ((List (Tx × Tx)) × Unit)) f0 (fun x => m_kinds x.1))) (D_counting : Df P w K mg base "counting" 4 ["told", "border"] (sp K (α := ((List Tx) × ((Option Tx) × Unit))) f0 (fun x => m_counting x.1 x.2.1))) (D_sign_shown : Df P w K mg base "sign_shown" 1 ["one", "sign"] (sp K (α := (Tx × (Tx × Unit))) f0 (fun x => m_sign_shown x.1 x.2.1))) : Df P w K mg base "shown_units" 5 ["content"] (sp K (α := ((List (Tx × Tx)) × Unit)) f0 (fun x => m_shown_units x.1)) := by
  obtain ⟨f_kinds, fd_kinds, g_kinds, m_g_kinds, k_g_kinds, b_g_kinds⟩ := D_kinds.ex
  obtain ⟨f_counting, fd_counting, g_counting, m_g_counting, k_g_counting, b_g_counting⟩ := D_counting.ex
  obtain ⟨f_sign_shown, fd_sign_shown, g_sign_shown, m_g_sign_shown, k_g_sign_shown, b_g_sign_shown⟩ := D_sign_shown.ex
  obtain ⟨f, fd, Fn, hm, hk, hb⟩ := R.ex
  refine ⟨f, fd, Fn.ok sc_shown_units (sp_len (n := 1) fun _ => rfl) (fun cdv A outer s H vs Q E hr h => ?_), hm, hk, hb⟩
  refine ⟨_, pss_cons (ps_set (i := 1) sc_shown_units.nd rfl (Or.inr rfl) (pe_call g_kinds (hr.mono (by decide)) rfl m_g_kinds k_g_kinds b_g_kinds .nil pass0 (pa_cons (pv 0) (pa_nil)))) (pss_cons (ps_set (i := 2) sc_shown_units.nd rfl (Or.inl rfl) (pe_call g_counting (hr.mono (by decide)) rfl m_g_counting k_g_counting b_g_counting .nil pass0 (pa_cons (pv 1) (pa_cons (pe_str) (pa_nil))))) (pss_cons (ps_ret (pe_tup (pa_cons (pe_bm PySem.F.plainAttrs_str PySem.F.slot_str_join PySem.F.type_str_join mtJoin (pe_str) (pa_cons (pe_lc (own := [("k", 3)]) rfl sc_shown_units.nd (pi_list (pv 2)) (blkOk_by (N := ["content", "told", "sources", "k"]) (sc := defScope s_shown_units) (by decide +kernel)) (fun _ _ _ _ _ => pg_name (i := 3) sc_shown_units.nd rfl (Or.inl rfl)) (fun _ _ _ _ _ => pts_nil) (fun _ _ _ _ _ => pe_call g_sign_shown (hr.mono (by decide)) rfl m_g_sign_shown k_g_sign_shown b_g_sign_shown .nil pass0 (pa_cons (pe_ix (r := rIxL K) ix_list (pv 1) (pv 3) (fun _ _ => rfl)) (pa_cons (pe_ix (r := rIxT K) ix_tup (pe_ix (r := rIxL K) ix_list (pv 0) (pv 3) (fun _ _ => rfl)) (pe_int) (fun _ _ => rfl)) (pa_nil))))) (pa_nil))) (pa_cons (pv 2) (pa_nil))))) pss_nil)), ?_⟩
  refine @run_body K ((List (Tx × Tx)) × Unit) (Tx × (List Int)) Unit Unit _ _ f0 (fun x => m_shown_units x.1) (fun x => mb_shown_units x.1) (fun _ _ => [.un, .un, .un, .un]) _ ["content", "told", "sources", "k"] 0 vs H Q E h (fun _ => rfl) 4 1 (fun _ => rfl) rfl rfl (by decide) (fun x => ?_)
  obtain ⟨v_content, _⟩ := x
  show Ss K _ [Sl.of K v_content, .un, .un, .un] f0 f0 (mb_shown_units v_content) _
  exact ss_asg (es_callP (ea_cons (es_var (i := 0) rfl) (ea_nil))) tg_name fun v_told_1 => ss_asg (es_callP (ea_cons (es_var (i := 1) rfl) (ea_cons (es_cast cast_some (es_str (by decide +kernel))) (ea_nil)))) tg_name fun v_sources_2 => ss_last (ss_ret (es_tup2 (ea_cons (es_bm mt2_join (es_str (by decide +kernel)) (ea_cons (es_lc (vs := [3]) (ei_list (es_var (i := 2) rfl)) tg_name (tgw_name (by decide)) (fun x3 => et_yes) (fun x3 => es_callP (ea_cons (es_op o2_ixL (es_var (i := 1) rfl) (es_var (i := 3) rfl)) (ea_cons (es_op o2_ix1 (es_op o2_ixL (es_var (i := 0) rfl) (es_var (i := 3) rfl)) (es_int)) (ea_nil))))) (ea_nil))) (ea_cons (es_var (i := 2) rfl) (ea_nil)))))

theorem ok_needed (R : Raw K mg "needed" ["told"] s_needed) (T : Txt K mg) (D_counting : Df P w K mg base "counting" 4 ["told", "border"] (sp K (α := ((List Tx) × ((Option Tx) × Unit))) f0 (fun x => m_counting x.1 x.2.1))) (D_kinds : Df P w K mg base "kinds" 2 ["told"] (sp K (α := ((List (Tx × Tx)) × Unit)) f0 (fun x => m_kinds x.1))) : Df P w K mg base "needed" 5 ["told"] (sp K (α := ((List (Tx × Tx)) × Unit)) f0 (fun x => m_needed x.1)) := by
  obtain ⟨f_counting, fd_counting, g_counting, m_g_counting, k_g_counting, b_g_counting⟩ := D_counting.ex
  obtain ⟨f_kinds, fd_kinds, g_kinds, m_g_kinds, k_g_kinds, b_g_kinds⟩ := D_kinds.ex
  obtain ⟨f, fd, Fn, hm, hk, hb⟩ := R.ex
  refine ⟨f, fd, Fn.ok sc_needed (sp_len (n := 1) fun _ => rfl) (fun cdv A outer s H vs Q E hr h => ?_), hm, hk, hb⟩
  refine ⟨_, pss_cons (ps_ret (pe_lc (own := [("k", 1)]) rfl sc_needed.nd (pi_list (pe_call g_counting (hr.mono (by decide)) rfl m_g_counting k_g_counting b_g_counting .nil pass0 (pa_cons (pe_call g_kinds (hr.mono (by decide)) rfl m_g_kinds k_g_kinds b_g_kinds .nil pass0 (pa_cons (pv 0) (pa_nil))) (pa_cons (pe_non) (pa_nil))))) (blkOk_by (N := ["told", "k"]) (sc := defScope s_needed) (by decide +kernel)) (fun _ _ _ _ _ => pg_name (i := 1) sc_needed.nd rfl (Or.inl rfl)) (fun _ _ _ _ _ => pts_nil) (fun _ _ _ _ _ => pe_ix (r := rIxL K) ix_list (pv 0) (pv 1) (fun _ _ => rfl)))) pss_nil, ?_⟩
  refine @run_body K ((List (Tx × Tx)) × Unit) (List (Tx × Tx)) Unit Unit _ _ f0 (fun x => m_needed x.1) (fun x => mb_needed x.1) (fun _ _ => [.un, .un]) _ ["told", "k"] 0 vs H Q E h (fun _ => rfl) 2 1 (fun _ => rfl) rfl rfl (by decide) (fun x => ?_)
  obtain ⟨v_told, _⟩ := x
  show Ss K _ [Sl.of K v_told, .un] f0 f0 (mb_needed v_told) _
  exact ss_last (ss_ret (es_lc (vs := [1]) (ei_list (es_callP (ea_cons (es_callP (ea_cons (es_var (i := 0) rfl) (ea_nil))) (ea_cons (es_noneO) (ea_nil))))) tg_name (tgw_name (by decide)) (fun x1 => et_yes) (fun x1 => es_op o2_ixL (es_var (i := 0) rfl) (es_var (i := 1) rfl))))

theorem ok_shortened (R : Raw K mg "shortened" ["fragment"] s_shortened) (T : Txt K mg) (D_tidy : Df P w K mg base "tidy" 1 ["told"] (sp K (α := ((List (Tx × Tx)) × Unit)) f0 (fun x => m_tidy x.1))) (D_needed : Df P w K mg base "needed" 5 ["told"] (sp K (α := ((List (Tx × Tx)) × Unit)) f0 (fun x => m_needed x.1))) (D_units : Df P w K mg base "units" 1 ["fragment"] (sp K (α := ((List (Tx × Tx)) × Unit)) f0 (fun x => m_units x.1))) : Df P w K mg base "shortened" 6 ["fragment"] (sp K (α := ((List (Tx × Tx)) × Unit)) f0 (fun x => m_shortened x.1)) := by
  obtain ⟨f_tidy, fd_tidy, g_tidy, m_g_tidy, k_g_tidy, b_g_tidy⟩ := D_tidy.ex
  obtain ⟨f_needed, fd_needed, g_needed, m_g_needed, k_g_needed, b_g_needed⟩ := D_needed.ex
  obtain ⟨f_units, fd_units, g_units, m_g_units, k_g_units, b_g_units⟩ := D_units.ex
  obtain ⟨f, fd, Fn, hm, hk, hb⟩ := R.ex
  refine ⟨f, fd, Fn.ok sc_shortened (sp_len (n := 1) fun _ => rfl) (fun cdv A outer s H vs Q E hr h => ?_), hm, hk, hb⟩
  refine ⟨_, pss_cons (ps_ret (pe_call g_tidy (hr.mono (by decide)) rfl m_g_tidy k_g_tidy b_g_tidy .nil pass0 (pa_cons (pe_call g_needed (hr.mono (by decide)) rfl m_g_needed k_g_needed b_g_needed .nil pass0 (pa_cons (pe_call g_units (hr.mono (by decide)) rfl m_g_units k_g_units b_g_units .nil pass0 (pa_cons (pv 0) (pa_nil))) (pa_nil))) (pa_nil)))) pss_nil, ?_⟩
  refine @run_body K ((List (Tx × Tx)) × Unit) (List (Tx × Tx)) Unit Unit _ _ f0 (fun x => m_shortened x.1) (fun x => mb_shortened x.1) (fun _ _ => [.un]) _ ["fragment"] 0 vs H Q E h (fun _ => rfl) 1 1 (fun _ => rfl) rfl rfl (by decide) (fun x => ?_)
  obtain ⟨v_fragment, _⟩ := x
  show Ss K _ [Sl.of K v_fragment] f0 f0 (mb_shortened v_fragment) _
  exact ss_last (ss_ret (es_callP (ea_cons (es_callP (ea_cons (es_callP (ea_cons (es_var (i := 0) rfl) (ea_nil))) (ea_nil))) (ea_nil))))

theorem ok_with_feed_last (R : Raw K mg "_with_feed_last" ["signs"] s_with_feed_last) (T : Txt K mg) : Df P w K mg base "_with_feed_last" 1 ["signs"] (sp K (α := (Tx × Unit)) f0 (fun x => m_with_feed_last x.1)) := by
  obtain ⟨f, fd, Fn, hm, hk, hb⟩ := R.ex
  refine ⟨f, fd, Fn.ok sc_with_feed_last (sp_len (n := 1) fun _ => rfl) (fun cdv A outer s H vs Q E hr h => ?_), hm, hk, hb⟩
  refine ⟨_, pss_cons (ps_ret (pe_ifExpT (pt1_cmpL opInC (pv 0)) (CwR.pet_op opAddS (CwR.pet_replC (pv 0)) (CwR.PET.of (pe_str))) (pv 0))) pss_nil, ?_⟩
  refine @run_body K (Tx × Unit) Tx Unit Unit _ _ f0 (fun x => m_with_feed_last x.1) (fun x => mb_with_feed_last x.1) (fun _ _ => [.un]) _ ["signs"] 0 vs H Q E h (fun _ => rfl) 1 1 (fun _ => rfl) rfl rfl (by decide) (fun x => ?_)
  obtain ⟨v_signs, _⟩ := x
  show Ss K _ [Sl.of K v_signs] f0 f0 (mb_with_feed_last v_signs) _
  exact ss_last (ss_ret (es_if (et_test (K := K) (es_op o2_inS (es_str (by decide +kernel)) (es_var (i := 0) rfl))) (es_op o2_addS (es_repl (es_var (i := 0) rfl)) (es_str (by decide +kernel))) (es_var (i := 0) rfl)))

theorem ok_with_feed_first (R : Raw K mg "_with_feed_first" ["signs"] s_with_feed_first) (T : Txt K mg) : Df P w K mg base "_with_feed_first" 1 ["signs"] (sp K (α := (Tx × Unit)) f0 (fun x => m_with_feed_first x.1)) := by
  obtain ⟨f, fd, Fn, hm, hk, hb⟩ := R.ex
  refine ⟨f, fd, Fn.ok sc_with_feed_first (sp_len (n := 1) fun _ => rfl) (fun cdv A outer s H vs Q E hr h => ?_), hm, hk, hb⟩
  refine ⟨_, pss_cons (ps_ret (pe_ifExpT (pt1_cmpL opInC (pv 0)) (CwR.pet_op opAddS (CwR.PET.of (pe_str)) (CwR.pet_replC (pv 0))) (pv 0))) pss_nil, ?_⟩
  refine @run_body K (Tx × Unit) Tx Unit Unit _ _ f0 (fun x => m_with_feed_first x.1) (fun x => mb_with_feed_first x.1) (fun _ _ => [.un]) _ ["signs"] 0 vs H Q E h (fun _ => rfl) 1 1 (fun _ => rfl) rfl rfl (by decide) (fun x => ?_)
  obtain ⟨v_signs, _⟩ := x
  show Ss K _ [Sl.of K v_signs] f0 f0 (mb_with_feed_first v_signs) _
  exact ss_last (ss_ret (es_if (et_test (K := K) (es_op o2_inS (es_str (by decide +kernel)) (es_var (i := 0) rfl))) (es_op o2_addS (es_str (by decide +kernel)) (es_repl (es_var (i := 0) rfl))) (es_var (i := 0) rfl)))

theorem ok_form_of (R : Raw K mg "form_of" ["told"] s_form_of) (T : Txt K mg) (D_needed : Df P w K mg base "needed" 5 ["told"] (sp K (α := ((List (Tx × Tx)) × Unit)) f0 (fun x => m_needed x.1))) (D_kinds : Df P w K mg base "kinds" 2 ["told"] (sp K (α := ((List (Tx × Tx)) × Unit)) f0 (fun x => m_kinds x.1))) (D_is_solid : Df P w K mg base "is_solid" 1 ["one"] (sp K (α := (Tx × Unit)) f0 (fun x => m_is_solid x.1))) (D_sign_shown : Df P w K mg base "sign_shown" 1 ["one", "sign"] (sp K (α := (Tx × (Tx × Unit))) f0 (fun x => m_sign_shown x.1 x.2.1))) (D_with_feed_last : Df P w K mg base "_with_feed_last" 1 ["signs"] (sp K (α := (Tx × Unit)) f0 (fun x => m_with_feed_last x.1))) (D_with_feed_first : Df P w K mg base "_with_feed_first" 1 ["signs"] (sp K (α := (Tx × Unit)) f0 (fun x => m_with_feed_first x.1))) : Df P w K mg base "form_of" 6 ["told"] (sp K (α := ((List (Tx × Tx)) × Unit)) f0 (fun x => m_form_of x.1)) := by
  obtain ⟨f_needed, fd_needed, g_needed, m_g_needed, k_g_needed, b_g_needed⟩ := D_needed.ex
  obtain ⟨f_kinds, fd_kinds, g_kinds, m_g_kinds, k_g_kinds, b_g_kinds⟩ := D_kinds.ex
  obtain ⟨f_is_solid, fd_is_solid, g_is_solid, m_g_is_solid, k_g_is_solid, b_g_is_solid⟩ := D_is_solid.ex
  obtain ⟨f_sign_shown, fd_sign_shown, g_sign_shown, m_g_sign_shown, k_g_sign_shown, b_g_sign_shown⟩ := D_sign_shown.ex
  obtain ⟨f_with_feed_last, fd_with_feed_last, g_with_feed_last, m_g_with_feed_last, k_g_with_feed_last, b_g_with_feed_last⟩ := D_with_feed_last.ex
  obtain ⟨f_with_feed_first, fd_with_feed_first, g_with_feed_first, m_g_with_feed_first, k_g_with_feed_first, b_g_with_feed_first⟩ := D_with_feed_first.ex
  obtain ⟨f, fd, Fn, hm, hk, hb⟩ := R.ex
  refine ⟨f, fd, Fn.ok sc_form_of (sp_len (n := 1) fun _ => rfl) (fun cdv A outer s H vs Q E hr h => ?_), hm, hk, hb⟩
  refine ⟨_, pss_cons (ps_set (i := 1) sc_form_of.nd rfl (Or.inr rfl) (pe_call g_needed (hr.mono (by decide)) rfl m_g_needed k_g_needed b_g_needed .nil pass0 (pa_cons (pv 0) (pa_nil)))) (pss_cons (ps_set (i := 2) sc_form_of.nd rfl (Or.inr rfl) (pe_call g_kinds (hr.mono (by decide)) rfl m_g_kinds k_g_kinds b_g_kinds .nil pass0 (pa_cons (pv 1) (pa_nil)))) (pss_cons (ps_setLc (i := 3) (own := [("k", 9), ("one", 10)]) rfl sc_form_of.nd rfl rfl (sw_true rfl rfl rfl (by decide +kernel)) (pi_enum (by rfl) T.b_enumerate (pa_cons (pv 2) (pa_nil))) (blkOk_by (N := ["told", "kept", "ones", "solid", "start", "core", "end", "first", "last", "k", "one", "mode", "sign"]) (sc := defScope s_form_of) (by decide +kernel)) (fun _ _ _ _ _ => show PG _ _ (gTup K 2 (gCons (gName 9) (gCons (gName 10) gNil))) from pg_tup rfl (pgs_cons (pg_name (i := 9) sc_form_of.nd rfl (Or.inl rfl) (Or.inr rfl)) (pgs_cons (pg_name (i := 10) sc_form_of.nd rfl (Or.inl rfl) (Or.inr rfl)) pgs_nil))) (fun _ _ _ _ _ => pts_one (pt_truthK (K := K) rfl (pe_call g_is_solid (hr.mono (by decide)) rfl m_g_is_solid k_g_is_solid b_g_is_solid .nil pass0 (pa_cons (pv 10) (pa_nil))) (fun _ => rfl))) (fun _ _ _ _ _ => pv 9)) (pss_cons (ps_if (pt_not (pt_truthK (K := K) rfl (pv 3) (fun _ => rfl))) (pss_cons (ps_ret (pe_tup (pa_cons (pe_bm PySem.F.plainAttrs_str PySem.F.slot_str_join PySem.F.type_str_join mtJoin (pe_str) (pa_cons (pe_lc (own := [("mode", 11), ("sign", 12)]) rfl sc_form_of.nd (pi_list (pv 1)) (blkOk_by (N := ["told", "kept", "ones", "solid", "start", "core", "end", "first", "last", "k", "one", "mode", "sign"]) (sc := defScope s_form_of) (by decide +kernel)) (fun _ _ _ _ _ => show PG _ _ (gTup K 2 (gCons (gName 11) (gCons (gName 12) gNil))) from pg_tup rfl (pgs_cons (pg_name (i := 11) sc_form_of.nd rfl (Or.inl rfl) (Or.inr rfl)) (pgs_cons (pg_name (i := 12) sc_form_of.nd rfl (Or.inl rfl) (Or.inr rfl)) pgs_nil))) (fun _ _ _ _ _ => pts_nil) (fun _ _ _ _ _ => pv 12)) (pa_nil))) (pa_cons (pe_str) (pa_cons (pe_str) (pa_nil)))))) pss_nil) (pss_nil)) (pss_cons (ps_par (i := 7) (j := 8) rfl sc_form_of.nd rfl rfl (by decide) rfl rfl (pa_cons (pe_ix (r := rIxL K) ix_list (pv 3) (pe_int) (fun _ _ => rfl)) (pa_cons (pe_ix (r := rIxL K) ix_list (pv 3) (pe_un un_neg pe_int) (fun _ _ => rfl)) (pa_nil))) (by rfl)) (pss_cons (ps_set (i := 4) sc_form_of.nd rfl (Or.inl rfl) (pe_bm PySem.F.plainAttrs_str PySem.F.slot_str_join PySem.F.type_str_join mtJoin (pe_str) (pa_cons (pe_lc (own := [("mode", 11), ("sign", 12)]) rfl sc_form_of.nd (pi_list (pe_slice (r := rSlL K) sl_list (pv 1) (po_none) (po_some (pv 7)))) (blkOk_by (N := ["told", "kept", "ones", "solid", "start", "core", "end", "first", "last", "k", "one", "mode", "sign"]) (sc := defScope s_form_of) (by decide +kernel)) (fun _ _ _ _ _ => show PG _ _ (gTup K 2 (gCons (gName 11) (gCons (gName 12) gNil))) from pg_tup rfl (pgs_cons (pg_name (i := 11) sc_form_of.nd rfl (Or.inl rfl) (Or.inr rfl)) (pgs_cons (pg_name (i := 12) sc_form_of.nd rfl (Or.inl rfl) (Or.inr rfl)) pgs_nil))) (fun _ _ _ _ _ => pts_nil) (fun _ _ _ _ _ => pv 12)) (pa_nil)))) (pss_cons (ps_set (i := 5) sc_form_of.nd rfl (Or.inl rfl) (pe_bm PySem.F.plainAttrs_str PySem.F.slot_str_join PySem.F.type_str_join mtJoin (pe_str) (pa_cons (pe_lc (own := [("k", 9)]) rfl sc_form_of.nd (pi_range2 rfl T.b_range (pa_cons (pv 7) (pa_cons (pe_op op_add (pv 8) (pe_int)) (pa_nil)))) (blkOk_by (N := ["told", "kept", "ones", "solid", "start", "core", "end", "first", "last", "k", "one", "mode", "sign"]) (sc := defScope s_form_of) (by decide +kernel)) (fun _ _ _ _ _ => pg_name (i := 9) sc_form_of.nd rfl (Or.inl rfl)) (fun _ _ _ _ _ => pts_nil) (fun _ _ _ _ _ => pe_call g_sign_shown (hr.mono (by decide)) rfl m_g_sign_shown k_g_sign_shown b_g_sign_shown .nil pass0 (pa_cons (pe_ix (r := rIxL K) ix_list (pv 2) (pv 9) (fun _ _ => rfl)) (pa_cons (pe_ix (r := rIxT K) ix_tup (pe_ix (r := rIxL K) ix_list (pv 1) (pv 9) (fun _ _ => rfl)) (pe_int) (fun _ _ => rfl)) (pa_nil))))) (pa_nil)))) (pss_cons (ps_set (i := 6) sc_form_of.nd rfl (Or.inl rfl) (pe_bm PySem.F.plainAttrs_str PySem.F.slot_str_join PySem.F.type_str_join mtJoin (pe_str) (pa_cons (pe_lc (own := [("mode", 11), ("sign", 12)]) rfl sc_form_of.nd (pi_list (pe_slice (r := rSlL K) sl_list (pv 1) (po_some (pe_op op_add (pv 8) (pe_int))) (po_none))) (blkOk_by (N := ["told", "kept", "ones", "solid", "start", "core", "end", "first", "last", "k", "one", "mode", "sign"]) (sc := defScope s_form_of) (by decide +kernel)) (fun _ _ _ _ _ => show PG _ _ (gTup K 2 (gCons (gName 11) (gCons (gName 12) gNil))) from pg_tup rfl (pgs_cons (pg_name (i := 11) sc_form_of.nd rfl (Or.inl rfl) (Or.inr rfl)) (pgs_cons (pg_name (i := 12) sc_form_of.nd rfl (Or.inl rfl) (Or.inr rfl)) pgs_nil))) (fun _ _ _ _ _ => pts_nil) (fun _ _ _ _ _ => pv 12)) (pa_nil)))) (pss_cons (ps_if (pt_cmpN op_eq (pe_ix (r := rIxL K) ix_list (pv 2) (pv 7) (fun _ _ => rfl)) (pe_str)) (pss_cons (ps_set (i := 4) sc_form_of.nd rfl (Or.inl rfl) (pe_call g_with_feed_last (hr.mono (by decide)) rfl m_g_with_feed_last k_g_with_feed_last b_g_with_feed_last .nil pass0 (pa_cons (pv 4) (pa_nil)))) (pss_nil)) (pss_nil)) (pss_cons (ps_if (pt_cmpN op_eq (pe_ix (r := rIxL K) ix_list (pv 2) (pv 8) (fun _ _ => rfl)) (pe_str)) (pss_cons (ps_set (i := 6) sc_form_of.nd rfl (Or.inl rfl) (pe_call g_with_feed_first (hr.mono (by decide)) rfl m_g_with_feed_first k_g_with_feed_first b_g_with_feed_first .nil pass0 (pa_cons (pv 6) (pa_nil)))) (pss_nil)) (pss_nil)) (pss_cons (ps_ret (pe_tup (pa_cons (pv 4) (pa_cons (pv 5) (pa_cons (pv 6) (pa_nil)))))) pss_nil)))))))))), ?_⟩
  refine @run_body K ((List (Tx × Tx)) × Unit) (T3 Tx Tx Tx) Unit Unit _ _ f0 (fun x => m_form_of x.1) (fun x => mb_form_of x.1) (fun _ _ => [.un, .un, .un, .un, .un, .un, .un, .un, .un, .un, .un, .un, .un]) _ ["told", "kept", "ones", "solid", "start", "core", "end", "first", "last", "k", "one", "mode", "sign"] 0 vs H Q E h (fun _ => rfl) 13 1 (fun _ => rfl) rfl rfl (by decide) (fun x => ?_)
  obtain ⟨v_told, _⟩ := x
  show Ss K _ [Sl.of K v_told, .un, .un, .un, .un, .un, .un, .un, .un, .un, .un, .un, .un] f0 f0 (mb_form_of v_told) _
  exact ss_asg (es_callP (ea_cons (es_var (i := 0) rfl) (ea_nil))) tg_name fun v_kept_1 => ss_asg (es_callP (ea_cons (es_var (i := 1) rfl) (ea_nil))) tg_name fun v_ones_2 => ss_asg (es_lc (vs := [9, 10]) (ei_enum (ea_cons (es_var (i := 2) rfl) (ea_nil))) tg_pair (tgw_pair (by decide) (by decide)) (fun x3 => et_tru tru_bl (es_callP (ea_cons (es_var (i := 10) rfl) (ea_nil)))) (fun x3 => es_var (i := 9) rfl)) tg_name fun v_solid_4 => ss_then (e1 := (fun g6 : Unit => [Sl.of K v_told, Sl.of K v_kept_1, Sl.of K v_ones_2, Sl.of K v_solid_4, .un, .un, .un, .un, .un, .un, .un, .un, .un])) (ss_if (et_not (et_tru tru_list (es_var (i := 3) rfl))) (ss_last (ss_ret (es_tup3 (ea_cons (es_bm mt2_join (es_str (by decide +kernel)) (ea_cons (es_lc (vs := [11, 12]) (ei_list (es_var (i := 1) rfl)) tg_pair (tgw_pair (by decide) (by decide)) (fun x5 => et_yes) (fun x5 => es_var (i := 12) rfl)) (ea_nil))) (ea_cons (es_str (by decide +kernel)) (ea_cons (es_str (by decide +kernel)) (ea_nil))))))) (ss_nx ⟨.inr rfl, ⟨.inr rfl, ⟨.inr rfl, ⟨.inr rfl, ⟨.inl rfl, ⟨.inl rfl, ⟨.inl rfl, ⟨.inl rfl, ⟨.inl rfl, ⟨.inl rfl, ⟨.inl rfl, ⟨.inl rfl, ⟨.inl rfl, trivial⟩⟩⟩⟩⟩⟩⟩⟩⟩⟩⟩⟩⟩)) (fun g6 => ss_par (i := 7) (j := 8) (ea_cons (es_op o2_ixL (es_var (i := 3) rfl) (es_int)) (ea_cons (es_op o2_ixL (es_var (i := 3) rfl) (es_negc)) (ea_nil))) (fun t7 => ss_asg (es_bm mt2_join (es_str (by decide +kernel)) (ea_cons (es_lc (vs := [11, 12]) (ei_list (es_slice sl3_L (es_var (i := 1) rfl) (eo_none) (eo_some (K := K) (es_var (i := 7) rfl)))) tg_pair (tgw_pair (by decide) (by decide)) (fun x8 => et_yes) (fun x8 => es_var (i := 12) rfl)) (ea_nil))) tg_name fun v_start_9 => ss_asg (es_bm mt2_join (es_str (by decide +kernel)) (ea_cons (es_lc (vs := [9]) (ei_range2 (ea_cons (es_var (i := 7) rfl) (ea_cons (es_op o2_add (es_var (i := 8) rfl) (es_int)) (ea_nil)))) tg_name (tgw_name (by decide)) (fun x10 => et_yes) (fun x10 => es_callP (ea_cons (es_op o2_ixL (es_var (i := 2) rfl) (es_var (i := 9) rfl)) (ea_cons (es_op o2_ix1 (es_op o2_ixL (es_var (i := 1) rfl) (es_var (i := 9) rfl)) (es_int)) (ea_nil))))) (ea_nil))) tg_name fun v_core_11 => ss_asg (es_bm mt2_join (es_str (by decide +kernel)) (ea_cons (es_lc (vs := [11, 12]) (ei_list (es_slice sl3_L (es_var (i := 1) rfl) (eo_some (K := K) (es_op o2_add (es_var (i := 8) rfl) (es_int))) (eo_none))) tg_pair (tgw_pair (by decide) (by decide)) (fun x12 => et_yes) (fun x12 => es_var (i := 12) rfl)) (ea_nil))) tg_name fun v_end_13 => ss_then (e1 := (fun g15 : Tx => [Sl.of K v_told, Sl.of K v_kept_1, Sl.of K v_ones_2, Sl.of K v_solid_4, Sl.of K g15, Sl.of K v_core_11, Sl.of K v_end_13, Sl.of K t7.1, Sl.of K t7.2.1, .un, .un, .un, .un])) (ss_if (et_test (K := K) (es_op o2_eqS (es_op o2_ixL (es_var (i := 2) rfl) (es_var (i := 7) rfl)) (es_str (by decide +kernel)))) (ss_asg (es_callP (ea_cons (es_var (i := 4) rfl) (ea_nil))) tg_name fun v_start_14 => ss_nx ⟨.inr rfl, ⟨.inr rfl, ⟨.inr rfl, ⟨.inr rfl, ⟨.inr rfl, ⟨.inr rfl, ⟨.inr rfl, ⟨.inr rfl, ⟨.inr rfl, ⟨.inl rfl, ⟨.inl rfl, ⟨.inl rfl, ⟨.inl rfl, trivial⟩⟩⟩⟩⟩⟩⟩⟩⟩⟩⟩⟩⟩) (ss_nx ⟨.inr rfl, ⟨.inr rfl, ⟨.inr rfl, ⟨.inr rfl, ⟨.inr rfl, ⟨.inr rfl, ⟨.inr rfl, ⟨.inr rfl, ⟨.inr rfl, ⟨.inl rfl, ⟨.inl rfl, ⟨.inl rfl, ⟨.inl rfl, trivial⟩⟩⟩⟩⟩⟩⟩⟩⟩⟩⟩⟩⟩)) (fun g15 => ss_then (e1 := (fun g17 : Tx => [Sl.of K v_told, Sl.of K v_kept_1, Sl.of K v_ones_2, Sl.of K v_solid_4, Sl.of K g15, Sl.of K v_core_11, Sl.of K g17, Sl.of K t7.1, Sl.of K t7.2.1, .un, .un, .un, .un])) (ss_if (et_test (K := K) (es_op o2_eqS (es_op o2_ixL (es_var (i := 2) rfl) (es_var (i := 8) rfl)) (es_str (by decide +kernel)))) (ss_asg (es_callP (ea_cons (es_var (i := 6) rfl) (ea_nil))) tg_name fun v_end_16 => ss_nx ⟨.inr rfl, ⟨.inr rfl, ⟨.inr rfl, ⟨.inr rfl, ⟨.inr rfl, ⟨.inr rfl, ⟨.inr rfl, ⟨.inr rfl, ⟨.inr rfl, ⟨.inl rfl, ⟨.inl rfl, ⟨.inl rfl, ⟨.inl rfl, trivial⟩⟩⟩⟩⟩⟩⟩⟩⟩⟩⟩⟩⟩) (ss_nx ⟨.inr rfl, ⟨.inr rfl, ⟨.inr rfl, ⟨.inr rfl, ⟨.inr rfl, ⟨.inr rfl, ⟨.inr rfl, ⟨.inr rfl, ⟨.inr rfl, ⟨.inl rfl, ⟨.inl rfl, ⟨.inl rfl, ⟨.inl rfl, trivial⟩⟩⟩⟩⟩⟩⟩⟩⟩⟩⟩⟩⟩)) (fun g17 => ss_last (ss_ret (es_tup3 (ea_cons (es_var (i := 4) rfl) (ea_cons (es_var (i := 5) rfl) (ea_cons (es_var (i := 6) rfl) (ea_nil))))))) (fun _ => ⟨0, rfl⟩)) (fun _ => ⟨0, rfl⟩))) (fun _ => ⟨0, rfl⟩)

theorem ok_normal_form (R : Raw K mg "normal_form" ["fragment"] s_normal_form) (T : Txt K mg) (D_form_of : Df P w K mg base "form_of" 6 ["told"] (sp K (α := ((List (Tx × Tx)) × Unit)) f0 (fun x => m_form_of x.1))) (D_units : Df P w K mg base "units" 1 ["fragment"] (sp K (α := ((List (Tx × Tx)) × Unit)) f0 (fun x => m_units x.1))) : Df P w K mg base "normal_form" 7 ["fragment"] (sp K (α := ((List (Tx × Tx)) × Unit)) f0 (fun x => m_normal_form x.1)) := by
  obtain ⟨f_form_of, fd_form_of, g_form_of, m_g_form_of, k_g_form_of, b_g_form_of⟩ := D_form_of.ex
  obtain ⟨f_units, fd_units, g_units, m_g_units, k_g_units, b_g_units⟩ := D_units.ex
  obtain ⟨f, fd, Fn, hm, hk, hb⟩ := R.ex
  refine ⟨f, fd, Fn.ok sc_normal_form (sp_len (n := 1) fun _ => rfl) (fun cdv A outer s H vs Q E hr h => ?_), hm, hk, hb⟩
  refine ⟨_, pss_cons (ps_ret (pe_call g_form_of (hr.mono (by decide)) rfl m_g_form_of k_g_form_of b_g_form_of .nil pass0 (pa_cons (pe_call g_units (hr.mono (by decide)) rfl m_g_units k_g_units b_g_units .nil pass0 (pa_cons (pv 0) (pa_nil))) (pa_nil)))) pss_nil, ?_⟩
  refine @run_body K ((List (Tx × Tx)) × Unit) (T3 Tx Tx Tx) Unit Unit _ _ f0 (fun x => m_normal_form x.1) (fun x => mb_normal_form x.1) (fun _ _ => [.un]) _ ["fragment"] 0 vs H Q E h (fun _ => rfl) 1 1 (fun _ => rfl) rfl rfl (by decide) (fun x => ?_)
  obtain ⟨v_fragment, _⟩ := x
  show Ss K _ [Sl.of K v_fragment] f0 f0 (mb_normal_form v_fragment) _
  exact ss_last (ss_ret (es_callP (ea_cons (es_callP (ea_cons (es_var (i := 0) rfl) (ea_nil))) (ea_nil))))

theorem ok_units_for (R : Raw K mg "_units_for" ["form"] s_units_for) (T : Txt K mg) (D_units : Df P w K mg base "units" 1 ["fragment"] (sp K (α := ((List (Tx × Tx)) × Unit)) f0 (fun x => m_units x.1))) : Df P w K mg base "_units_for" 2 ["form"] (sp K (α := ((T3 Tx Tx Tx) × Unit)) f0 (fun x => m_units_for x.1)) := by
  obtain ⟨f_units, fd_units, g_units, m_g_units, k_g_units, b_g_units⟩ := D_units.ex
  obtain ⟨f, fd, Fn, hm, hk, hb⟩ := R.ex
  refine ⟨f, fd, Fn.ok sc_units_for (sp_len (n := 1) fun _ => rfl) (fun cdv A outer s H vs Q E hr h => ?_), hm, hk, hb⟩
  refine ⟨_, pss_cons (ps_ret (pe_call g_units (hr.mono (by decide)) rfl m_g_units k_g_units b_g_units .nil pass0 (pa_cons (pe_lst (pa_cons (pe_tup (pa_cons (pe_str) (pa_cons (pe_ix (r := rIxT K) ix_tup (pv 0) (pe_int) (fun _ _ => rfl)) (pa_nil)))) (pa_cons (pe_tup (pa_cons (pe_str) (pa_cons (pe_ix (r := rIxT K) ix_tup (pv 0) (pe_int) (fun _ _ => rfl)) (pa_nil)))) (pa_cons (pe_tup (pa_cons (pe_str) (pa_cons (pe_ix (r := rIxT K) ix_tup (pv 0) (pe_int) (fun _ _ => rfl)) (pa_nil)))) (pa_nil))))) (pa_nil)))) pss_nil, ?_⟩
  refine @run_body K ((T3 Tx Tx Tx) × Unit) (List (Tx × Tx)) Unit Unit _ _ f0 (fun x => m_units_for x.1) (fun x => mb_units_for x.1) (fun _ _ => [.un]) _ ["form"] 0 vs H Q E h (fun _ => rfl) 1 1 (fun _ => rfl) rfl rfl (by decide) (fun x => ?_)
  obtain ⟨v_form, _⟩ := x
  show Ss K _ [Sl.of K v_form] f0 f0 (mb_units_for v_form) _
  exact ss_last (ss_ret (es_callP (ea_cons (es_lst (el_cons (es_tup2 (ea_cons (es_str (by decide +kernel)) (ea_cons (es_op o2_ix30 (es_var (i := 0) rfl) (es_int)) (ea_nil)))) (el_cons (es_tup2 (ea_cons (es_str (by decide +kernel)) (ea_cons (es_op o2_ix31 (es_var (i := 0) rfl) (es_int)) (ea_nil)))) (el_cons (es_tup2 (ea_cons (es_str (by decide +kernel)) (ea_cons (es_op o2_ix32 (es_var (i := 0) rfl) (es_int)) (ea_nil)))) (el_nil))))) (ea_nil))))

theorem ok_stands_for (R : Raw K mg "stands_for" ["form"] s_stands_for) (T : Txt K mg) (D_tidy : Df P w K mg base "tidy" 1 ["told"] (sp K (α := ((List (Tx × Tx)) × Unit)) f0 (fun x => m_tidy x.1))) (D_units_for : Df P w K mg base "_units_for" 2 ["form"] (sp K (α := ((T3 Tx Tx Tx) × Unit)) f0 (fun x => m_units_for x.1))) : Df P w K mg base "stands_for" 3 ["form"] (sp K (α := ((T3 Tx Tx Tx) × Unit)) f0 (fun x => m_stands_for x.1)) := by
  obtain ⟨f_tidy, fd_tidy, g_tidy, m_g_tidy, k_g_tidy, b_g_tidy⟩ := D_tidy.ex
  obtain ⟨f_units_for, fd_units_for, g_units_for, m_g_units_for, k_g_units_for, b_g_units_for⟩ := D_units_for.ex
  obtain ⟨f, fd, Fn, hm, hk, hb⟩ := R.ex
  refine ⟨f, fd, Fn.ok sc_stands_for (sp_len (n := 1) fun _ => rfl) (fun cdv A outer s H vs Q E hr h => ?_), hm, hk, hb⟩
  refine ⟨_, pss_cons (ps_ret (pe_call g_tidy (hr.mono (by decide)) rfl m_g_tidy k_g_tidy b_g_tidy .nil pass0 (pa_cons (pe_call g_units_for (hr.mono (by decide)) rfl m_g_units_for k_g_units_for b_g_units_for .nil pass0 (pa_cons (pv 0) (pa_nil))) (pa_nil)))) pss_nil, ?_⟩
  refine @run_body K ((T3 Tx Tx Tx) × Unit) (List (Tx × Tx)) Unit Unit _ _ f0 (fun x => m_stands_for x.1) (fun x => mb_stands_for x.1) (fun _ _ => [.un]) _ ["form"] 0 vs H Q E h (fun _ => rfl) 1 1 (fun _ => rfl) rfl rfl (by decide) (fun x => ?_)
  obtain ⟨v_form, _⟩ := x
  show Ss K _ [Sl.of K v_form] f0 f0 (mb_stands_for v_form) _
  exact ss_last (ss_ret (es_callP (ea_cons (es_callP (ea_cons (es_var (i := 0) rfl) (ea_nil))) (ea_nil))))

theorem ok_Document___init (R : RawI K mg "Document" fs_Document "Document.__init__" ["self", "fragment"] s_Document___init) (T : Txt K mg) (D_units : Df P w K mg base "units" 1 ["fragment"] (sp K (α := ((List (Tx × Tx)) × Unit)) f0 (fun x => m_units x.1))) : DfI P w K mg base "Document" fs_Document 2 ["self", "fragment"] (fun C => spOb K C fs_Document (α0 := ((List (Tx × Tx)) × Unit)) (fun x => m_Document___init x.1)) := by
  obtain ⟨f_units, fd_units, g_units, m_g_units, k_g_units, b_g_units⟩ := D_units.ex
  obtain ⟨C, f, fd, O, Mk, Fn, hm, hb⟩ := R.ex
  refine ⟨C, f, fd, O, Mk, Fn.ok sc_Document___init (spOb_len (n := 2) rfl) (fun cdv A outer s H vs Q E hr h => ?_), hm, hb⟩
  refine ⟨_, pss_cons (ps_fld (pv 0) (pe_call g_units (hr.mono (by decide)) rfl m_g_units k_g_units b_g_units .nil pass0 (pa_cons (pv 1) (pa_nil))) rfl) (pss_cons (ps_fld (pv 0) (pe_lst (pa_nil)) rfl) (pss_one (ps_fld (pv 0) (pe_lst (pa_nil)) rfl))), ?_⟩
  exact init3 (α0 := ((List (Tx × Tx)) × Unit)) (m1 := fun x => bd (mCons (pu x.1) (pu ())) fun x => zoom (fun _ => ()) (fun b _ => b) (m_units x.1)) (m2 := fun x => mMapO chk (pu ([] : List (List (Tx × Tx))))) (m3 := fun x => mMapO chk (pu ([] : List (List (Tx × Tx))))) O (by decide +kernel) (by decide +kernel) (by decide +kernel) 2 1 rfl rfl (by decide) (fun x dx l => by
    obtain ⟨v_fragment, _⟩ := x
    exact es_callP (ea_cons (es_var (i := 1) rfl) (ea_nil))) (fun x dx l => by
    obtain ⟨v_fragment, _⟩ := x
    exact es_lst (el_nil)) (fun x dx l => by
    obtain ⟨v_fragment, _⟩ := x
    exact es_lst (el_nil)) h

theorem ok_Document_text (R : RawM K "Document" fs_Document "text" "Document.text" ["self"] s_Document_text) (T : Txt K mg) (D_shown_units : Df P w K mg base "shown_units" 5 ["content"] (sp K (α := ((List (Tx × Tx)) × Unit)) f0 (fun x => m_shown_units x.1))) : DfM P w K mg base CX0 "Document" fs_Document "text" 6 ["self"] (sp K (α := Unit) (fOb K "Document" fs_Document (α := St_Document)) (fun x => m_Document_text)) := by
  obtain ⟨f_shown_units, fd_shown_units, g_shown_units, m_g_shown_units, k_g_shown_units, b_g_shown_units⟩ := D_shown_units.ex
  obtain ⟨C, f, fd, O, Fn, Me, hb⟩ := R.ex
  refine ⟨C, f, fd, O, Fn.ok sc_Document_text (sp_len (n := 1) fun _ => rfl) (fun cdv A outer s H vs Q E hr h => ?_), Me, hb⟩
  refine ⟨_, pss_cons (ps_ret (pe_ix (r := rIxT K) ix_tup (pe_call g_shown_units (hr.mono (by decide)) rfl m_g_shown_units k_g_shown_units b_g_shown_units .nil pass0 (pa_cons ((show PE _ _ (tFld K (tVar 0) "now") from pe_fld (pv 0) rfl)) (pa_nil))) (pe_int) (fun _ _ => rfl))) pss_nil, ?_⟩
  refine @run_body K Unit Tx St_Document Unit _ _ (fOb K "Document" fs_Document (α := St_Document)) (fun x => m_Document_text ) (fun x => mb_Document_text ) (fun _ _ => [.un]) _ ["self"] 1 vs H Q E h (fun _ => rfl) 1 0 (fun _ => rfl) rfl rfl (by decide) (fun x => ?_)
  obtain _ := x
  show Ss K _ [.own 0] (fOb K "Document" fs_Document (α := St_Document)) (fOb K "Document" fs_Document (α := St_Document)) (mb_Document_text ) _
  exact ss_last (ss_ret (es_op o2_ix0 (es_callP (ea_cons (es_fld (i := 0) (k := 0) (get := (fun b : St_Document => b)) (pj := (fun x : St_Document => x.1)) (uj := (fun (x : St_Document) (y : (List (Tx × Tx))) => (y, x.2.1, x.2.2.1, ()))) rfl (fun _ => rfl) fld0 (by decide +kernel)) (ea_nil))) (es_int)))

theorem ok_Document_length (R : RawM K "Document" fs_Document "length" "Document.length" ["self"] s_Document_length) (T : Txt K mg) : DfM P w K mg base CX0 "Document" fs_Document "length" 1 ["self"] (sp K (α := Unit) (fOb K "Document" fs_Document (α := St_Document)) (fun x => m_Document_length)) := by
  obtain ⟨C, f, fd, O, Fn, Me, hb⟩ := R.ex
  refine ⟨C, f, fd, O, Fn.ok sc_Document_length (sp_len (n := 1) fun _ => rfl) (fun cdv A outer s H vs Q E hr h => ?_), Me, hb⟩
  refine ⟨_, pss_cons (ps_ret (pe_callB (r := rLenQ K) callLenQ (by rfl) T.b_len bt_len (pa_cons ((show PE _ _ (tFld K (tVar 0) "now") from pe_fld (pv 0) rfl)) (pa_nil)))) pss_nil, ?_⟩
  refine @run_body K Unit Int St_Document Unit _ _ (fOb K "Document" fs_Document (α := St_Document)) (fun x => m_Document_length ) (fun x => mb_Document_length ) (fun _ _ => [.un]) _ ["self"] 1 vs H Q E h (fun _ => rfl) 1 0 (fun _ => rfl) rfl rfl (by decide) (fun x => ?_)
  obtain _ := x
  show Ss K _ [.own 0] (fOb K "Document" fs_Document (α := St_Document)) (fOb K "Document" fs_Document (α := St_Document)) (mb_Document_length ) _
  exact ss_last (ss_ret (es_cb cl_lenL (ea_cons (es_fld (i := 0) (k := 0) (get := (fun b : St_Document => b)) (pj := (fun x : St_Document => x.1)) (uj := (fun (x : St_Document) (y : (List (Tx × Tx))) => (y, x.2.1, x.2.2.1, ()))) rfl (fun _ => rfl) fld0 (by decide +kernel)) (ea_nil))))

theorem ok_Document_content (R : RawM K "Document" fs_Document "content" "Document.content" ["self"] s_Document_content) (T : Txt K mg) (D_tidy : Df P w K mg base "tidy" 1 ["told"] (sp K (α := ((List (Tx × Tx)) × Unit)) f0 (fun x => m_tidy x.1))) : DfM P w K mg base CX0 "Document" fs_Document "content" 2 ["self"] (sp K (α := Unit) (fOb K "Document" fs_Document (α := St_Document)) (fun x => m_Document_content)) := by
  obtain ⟨f_tidy, fd_tidy, g_tidy, m_g_tidy, k_g_tidy, b_g_tidy⟩ := D_tidy.ex
  obtain ⟨C, f, fd, O, Fn, Me, hb⟩ := R.ex
  refine ⟨C, f, fd, O, Fn.ok sc_Document_content (sp_len (n := 1) fun _ => rfl) (fun cdv A outer s H vs Q E hr h => ?_), Me, hb⟩
  refine ⟨_, pss_cons (ps_ret (pe_call g_tidy (hr.mono (by decide)) rfl m_g_tidy k_g_tidy b_g_tidy .nil pass0 (pa_cons ((show PE _ _ (tFld K (tVar 0) "now") from pe_fld (pv 0) rfl)) (pa_nil)))) pss_nil, ?_⟩
  refine @run_body K Unit (List (Tx × Tx)) St_Document Unit _ _ (fOb K "Document" fs_Document (α := St_Document)) (fun x => m_Document_content ) (fun x => mb_Document_content ) (fun _ _ => [.un]) _ ["self"] 1 vs H Q E h (fun _ => rfl) 1 0 (fun _ => rfl) rfl rfl (by decide) (fun x => ?_)
  obtain _ := x
  show Ss K _ [.own 0] (fOb K "Document" fs_Document (α := St_Document)) (fOb K "Document" fs_Document (α := St_Document)) (mb_Document_content ) _
  exact ss_last (ss_ret (es_callP (ea_cons (es_fld (i := 0) (k := 0) (get := (fun b : St_Document => b)) (pj := (fun x : St_Document => x.1)) (uj := (fun (x : St_Document) (y : (List (Tx × Tx))) => (y, x.2.1, x.2.2.1, ()))) rfl (fun _ => rfl) fld0 (by decide +kernel)) (ea_nil))))

theorem ok_Document__turn (R : RawM K "Document" fs_Document "_turn" "Document._turn" ["self", "fresh"] s_Document__turn) (T : Txt K mg) (D_Document_text : DfM P w K mg base CX0 "Document" fs_Document "text" 6 ["self"] (sp K (α := Unit) (fOb K "Document" fs_Document (α := St_Document)) (fun x => m_Document_text))) (D_change : Df P w K mg base "change" 2 ["one", "two"] (sp K (α := (Tx × (Tx × Unit))) f0 (fun x => m_change x.1 x.2.1))) : DfM P w K mg base CX0 "Document" fs_Document "_turn" 7 ["self", "fresh"] (sp K (α := ((List (Tx × Tx)) × Unit)) (fOb K "Document" fs_Document (α := St_Document)) (fun x => m_Document__turn x.1)) := by
  obtain ⟨C_Document_text, f_Document_text, fd_Document_text, O_Document_text, g_Document_text, M_Document_text, b_Document_text⟩ := D_Document_text.ex
  obtain ⟨f_change, fd_change, g_change, m_g_change, k_g_change, b_g_change⟩ := D_change.ex
  obtain ⟨C, f, fd, O, Fn, Me, hb⟩ := R.ex
  refine ⟨C, f, fd, O, Fn.ok sc_Document__turn (sp_len (n := 2) fun _ => rfl) (fun cdv A outer s H vs Q E hr h => ?_), Me, hb⟩
  refine ⟨_, pss_cons (ps_set (i := 2) sc_Document__turn.nd rfl (Or.inl rfl) (pe_meth0 (pv 0) O_Document_text.cl M_Document_text g_Document_text (hr.mono (by decide)) b_Document_text .nil pass0)) (pss_cons (ps_fld (pv 0) (pv 1) rfl) (pss_cons (ps_ret (pe_call g_change (hr.mono (by decide)) rfl m_g_change k_g_change b_g_change .nil pass0 (pa_cons (pv 2) (pa_cons (pe_meth0 (pv 0) O_Document_text.cl M_Document_text g_Document_text (hr.mono (by decide)) b_Document_text .nil pass0) (pa_nil))))) pss_nil)), ?_⟩
  refine @run_body K ((List (Tx × Tx)) × Unit) (Option (T3 Int Int Tx)) St_Document Unit _ _ (fOb K "Document" fs_Document (α := St_Document)) (fun x => m_Document__turn x.1) (fun x => mb_Document__turn x.1) (fun _ _ => [.un, .un, .un]) _ ["self", "fresh", "before"] 1 vs H Q E h (fun _ => rfl) 3 1 (fun _ => rfl) rfl rfl (by decide) (fun x => ?_)
  obtain ⟨v_fresh, _⟩ := x
  show Ss K _ [.own 0, Sl.of K v_fresh, .un] (fOb K "Document" fs_Document (α := St_Document)) (fOb K "Document" fs_Document (α := St_Document)) (mb_Document__turn v_fresh) _
  exact ss_asg (es_meth (m := "text") (i := 0) (k := 0) (get := (fun b : St_Document => b)) rfl (fun _ => rfl) O_Document_text (by decide +kernel) (es_call (ea_own (i := 0) (k := 0) rfl (ea_nil)) (fun _ => rfl) (fun _ _ => rfl) (fun _ => rfl))) tg_name fun v_before_1 => ss_put (i := 0) (k := 0) (get := (fun b : St_Document => b)) (put := (fun (b : St_Document) c => c)) (uj := (fun (x : St_Document) (y : (List (Tx × Tx))) => (y, x.2.1, x.2.2.1, ()))) rfl (fun _ => rfl) (fun _ _ => rfl) fld0 (by decide +kernel) rfl (by decide) (es_var (i := 1) rfl) (ss_last (ss_ret (es_callP (ea_cons (es_var (i := 2) rfl) (ea_cons (es_meth (m := "text") (i := 0) (k := 0) (get := (fun b : St_Document => b)) rfl (fun _ => rfl) O_Document_text (by decide +kernel) (es_call (ea_own (i := 0) (k := 0) rfl (ea_nil)) (fun _ => rfl) (fun _ _ => rfl) (fun _ => rfl))) (ea_nil))))))

theorem ok_Document__keep (R : RawM K "Document" fs_Document "_keep" "Document._keep" ["self"] s_Document__keep) (T : Txt K mg) : DfM P w K mg base CX0 "Document" fs_Document "_keep" 1 ["self"] (sp K (α := Unit) (fOb K "Document" fs_Document (α := St_Document)) (fun x => m_Document__keep)) := by
  obtain ⟨v_MOST_EARLIER, u_MOST_EARLIER, c_MOST_EARLIER, r_MOST_EARLIER, p_MOST_EARLIER⟩ := T.c_MOST_EARLIER
  obtain ⟨C, f, fd, O, Fn, Me, hb⟩ := R.ex
  refine ⟨C, f, fd, O, Fn.ok sc_Document__keep (sp_len (n := 1) fun _ => rfl) (fun cdv A outer s H vs Q E hr h => ?_), Me, hb⟩
  refine ⟨_, pss_cons (ps_fld (pv 0) (pe_slice (r := rSlL K) sl_list (pe_op op_cat ((show PE _ _ (tFld K (tVar 0) "earlier") from pe_fld (pv 0) rfl)) (pe_lst (pa_cons ((show PE _ _ (tFld K (tVar 0) "now") from pe_fld (pv 0) rfl)) (pa_nil)))) (po_some (pe_un un_neg (pe_glob rfl c_MOST_EARLIER r_MOST_EARLIER))) (po_none)) rfl) (pss_nil), ?_⟩
  refine @run_bodyU K Unit St_Document Unit _ (fOb K "Document" fs_Document (α := St_Document)) (fun x => m_Document__keep ) (fun x => mb_Document__keep ) (fun _ _ => [.un]) _ ["self"] 1 vs H Q E h (fun _ => rfl) 1 0 (fun _ => rfl) rfl rfl (by decide) (fun x => ?_)
  obtain _ := x
  show Ss K _ [.own 0] (fOb K "Document" fs_Document (α := St_Document)) (fOb K "Document" fs_Document (α := St_Document)) (mb_Document__keep ) _
  exact ss_put (i := 0) (k := 0) (get := (fun b : St_Document => b)) (put := (fun (b : St_Document) c => c)) (uj := (fun (x : St_Document) (y : (List (List (Tx × Tx)))) => (x.1, y, x.2.2.1, ()))) rfl (fun _ => rfl) (fun _ _ => rfl) (fldS fld0) (by decide +kernel) rfl (by decide) (es_slice sl3_L (es_op o2_cat (es_fld (i := 0) (k := 0) (get := (fun b : St_Document => b)) (pj := (fun x : St_Document => x.2.1)) (uj := (fun (x : St_Document) (y : (List (List (Tx × Tx)))) => (x.1, y, x.2.2.1, ()))) rfl (fun _ => rfl) (fldS fld0) (by decide +kernel)) (es_lst (el_cons (es_fld (i := 0) (k := 0) (get := (fun b : St_Document => b)) (pj := (fun x : St_Document => x.1)) (uj := (fun (x : St_Document) (y : (List (Tx × Tx))) => (y, x.2.1, x.2.2.1, ()))) rfl (fun _ => rfl) fld0 (by decide +kernel)) (el_nil)))) (eo_some (K := K) (es_neg (es_cst p_MOST_EARLIER))) (eo_none)) (ss_nx ⟨.inl rfl, trivial⟩)

theorem ok_Document__require (R : RawM K "Document" fs_Document "_require" "Document._require" ["self", "start", "end"] s_Document__require) (T : Txt K mg) (D_GapsError___init : GeD P K mg) : DfM P w K mg base (L2.CX P w) "Document" fs_Document "_require" 1 ["self", "start", "end"] (spE K (α := (Int × (Int × Unit))) (fOb K "Document" fs_Document (α := St_Document)) (fun x => m_Document__require x.1 x.2.1)) := by
  obtain ⟨C_ge, fI_ge, I_ge, T_ge, m_ge⟩ := D_GapsError___init.ex
  obtain ⟨C, f, fd, O, Fn, Me, hb⟩ := R.ex
  refine ⟨C, f, fd, O, Fn.okX sc_Document__require (spE_len (n := 3) fun _ => rfl) (fun cdv A outer s H vs Q E hr h => ?_), Me, hb⟩
  refine ⟨_, pss_cons (ps_if (PW.pt (pw_or (pt_cmpN op_gt (pv 1) (pv 2)) (pw_or1 (pt_cmpN op_gt (pv 2) (pe_callB (r := rLenQ K) callLenQ (by rfl) T.b_len bt_len (pa_cons ((show PE _ _ (tFld K (tVar 0) "now") from pe_fld (pv 0) rfl)) (pa_nil))))))) (pss_cons (ps_raiseGe rfl T_ge m_ge hr (takes_of rfl rfl rfl rfl) (pa_cons pe_str pa_nil)) pss_nil) (pss_nil)) pss_nil, ?_⟩
  refine run_bodyEU (K := K) (α0 := (Int × (Int × Unit))) (βc := St_Document) (γ := Unit) (fc := (fOb K "Document" fs_Document (α := St_Document))) (mc := fun x => m_Document__require x.1 x.2.1) (m := fun x => mb_Document__require x.1 x.2.1) (eN := fun _ _ => [.un, .un, .un]) (eX := fun _ => [.un, .un, .un]) (N := ["self", "start", "end"]) (k := 1) h (fun _ => rfl) 3 2 (fun _ => rfl) rfl rfl (by decide) (fun x => ?_)
  obtain ⟨v_start, v_end, _⟩ := x
  show Se K _ _ [.own 0, Sl.of K v_start, Sl.of K v_end] (fOb K "Document" fs_Document (α := St_Document)) (mb_Document__require v_start v_end) _ _
  exact se_last (se_if (et_or (et_test (K := K) (es_op o2_gt (es_var (i := 1) rfl) (es_var (i := 2) rfl))) (et_test (K := K) (es_op o2_gt (es_var (i := 2) rfl) (es_cb cl_lenL (ea_cons (es_fld (i := 0) (k := 0) (get := (fun b : St_Document => b)) (pj := (fun x : St_Document => x.1)) (uj := (fun (x : St_Document) (y : (List (Tx × Tx))) => (y, x.2.1, x.2.2.1, ()))) rfl (fun _ => rfl) fld0 (by decide +kernel)) (ea_nil)))))) (se_last (se_raise (s := "outside") I_ge (by decide +kernel) ⟨.inl rfl, ⟨.inl rfl, ⟨.inl rfl, trivial⟩⟩⟩)) (se_nx (eN := (fun _ : Unit => [.un, .un, .un])) (g := ()) ⟨.inl rfl, ⟨.inl rfl, ⟨.inl rfl, trivial⟩⟩⟩))

theorem ok_Document__edit (R : RawM K "Document" fs_Document "_edit" "Document._edit" ["self", "start", "end", "more"] s_Document__edit) (T : Txt K mg) (D_GapsError___init : GeD P K mg) (D_Document__keep : DfM P w K mg base CX0 "Document" fs_Document "_keep" 1 ["self"] (sp K (α := Unit) (fOb K "Document" fs_Document (α := St_Document)) (fun x => m_Document__keep))) (D_Document__turn : DfM P w K mg base CX0 "Document" fs_Document "_turn" 7 ["self", "fresh"] (sp K (α := ((List (Tx × Tx)) × Unit)) (fOb K "Document" fs_Document (α := St_Document)) (fun x => m_Document__turn x.1))) : DfM P w K mg base (L2.CX P w) "Document" fs_Document "_edit" 8 ["self", "start", "end", "more"] (spE K (α := (Int × (Int × ((List (Tx × Tx)) × Unit)))) (fOb K "Document" fs_Document (α := St_Document)) (fun x => m_Document__edit x.1 x.2.1 x.2.2.1)) := by
  obtain ⟨C_ge, fI_ge, I_ge, T_ge, m_ge⟩ := D_GapsError___init.ex
  obtain ⟨C_Document__keep, f_Document__keep, fd_Document__keep, O_Document__keep, g_Document__keep, M_Document__keep, b_Document__keep⟩ := D_Document__keep.ex
  obtain ⟨C_Document__turn, f_Document__turn, fd_Document__turn, O_Document__turn, g_Document__turn, M_Document__turn, b_Document__turn⟩ := D_Document__turn.ex
  obtain ⟨v_MOST_UNITS, u_MOST_UNITS, c_MOST_UNITS, r_MOST_UNITS, p_MOST_UNITS⟩ := T.c_MOST_UNITS
  obtain ⟨C, f, fd, O, Fn, Me, hb⟩ := R.ex
  refine ⟨C, f, fd, O, Fn.okX sc_Document__edit (spE_len (n := 4) fun _ => rfl) (fun cdv A outer s H vs Q E hr h => ?_), Me, hb⟩
  refine ⟨_, pss_cons (ps_set (i := 4) sc_Document__edit.nd rfl (Or.inl rfl) (pe_op op_cat (pe_op op_cat (pe_slice (r := rSlL K) sl_list ((show PE _ _ (tFld K (tVar 0) "now") from pe_fld (pv 0) rfl)) (po_none) (po_some (pv 1))) (pv 3)) (pe_slice (r := rSlL K) sl_list ((show PE _ _ (tFld K (tVar 0) "now") from pe_fld (pv 0) rfl)) (po_some (pv 2)) (po_none)))) (pss_cons (ps_if (pt_cmpN op_gt (pe_callB (r := rLenQ K) callLenQ (by rfl) T.b_len bt_len (pa_cons (pv 4) (pa_nil))) (pe_glob rfl c_MOST_UNITS r_MOST_UNITS)) (pss_cons (ps_raiseGe rfl T_ge m_ge hr (takes_of rfl rfl rfl rfl) (pa_cons pe_str pa_nil)) pss_nil) (pss_nil)) (pss_cons (ps_expr (pe_meth0 (pv 0) O_Document__keep.cl M_Document__keep g_Document__keep (hr.mono (by decide)) b_Document__keep .nil pass0)) (pss_cons (ps_fld (pv 0) (pe_lst (pa_nil)) rfl) (pss_cons (ps_ret (pe_meth (pv 0) O_Document__turn.cl M_Document__turn g_Document__turn (hr.mono (by decide)) b_Document__turn .nil pass0 (pa_cons (pv 4) (pa_nil)))) pss_nil)))), ?_⟩
  refine run_bodyE (K := K) (ρ := (Option (T3 Int Int Tx))) (α0 := (Int × (Int × ((List (Tx × Tx)) × Unit)))) (βc := St_Document) (γ := Unit) (fc := (fOb K "Document" fs_Document (α := St_Document))) (mc := fun x => m_Document__edit x.1 x.2.1 x.2.2.1) (m := fun x => mb_Document__edit x.1 x.2.1 x.2.2.1) (eN := fun _ _ => [.un, .un, .un, .un, .un]) (eX := fun _ => [.un, .un, .un, .un, .un]) (N := ["self", "start", "end", "more", "fresh"]) (k := 1) h (fun _ => rfl) 5 3 (fun _ => rfl) rfl rfl (by decide) (fun x => ?_)
  obtain ⟨v_start, v_end, v_more, _⟩ := x
  show Se K _ _ [.own 0, Sl.of K v_start, Sl.of K v_end, Sl.of K v_more, .un] (fOb K "Document" fs_Document (α := St_Document)) (mb_Document__edit v_start v_end v_more) _ _
  exact se_asg (es_op o2_cat (es_op o2_cat (es_slice sl3_L (es_fld (i := 0) (k := 0) (get := (fun b : St_Document => b)) (pj := (fun x : St_Document => x.1)) (uj := (fun (x : St_Document) (y : (List (Tx × Tx))) => (y, x.2.1, x.2.2.1, ()))) rfl (fun _ => rfl) fld0 (by decide +kernel)) (eo_none) (eo_some (K := K) (es_var (i := 1) rfl))) (es_var (i := 3) rfl)) (es_slice sl3_L (es_fld (i := 0) (k := 0) (get := (fun b : St_Document => b)) (pj := (fun x : St_Document => x.1)) (uj := (fun (x : St_Document) (y : (List (Tx × Tx))) => (y, x.2.1, x.2.2.1, ()))) rfl (fun _ => rfl) fld0 (by decide +kernel)) (eo_some (K := K) (es_var (i := 2) rfl)) (eo_none))) (tg_name (i := 4)) fun v_fresh_1 => se_then (e1 := (fun _ : Unit => [.own 0, Sl.of K v_start, Sl.of K v_end, Sl.of K v_more, Sl.of K v_fresh_1])) (se_if (et_test (K := K) (es_op o2_gt (es_cb cl_lenL (ea_cons (es_var (i := 4) rfl) (ea_nil))) (es_cst p_MOST_UNITS))) (se_last (se_raise (s := "too long") I_ge (by decide +kernel) ⟨.inl rfl, ⟨.inl rfl, ⟨.inl rfl, ⟨.inl rfl, ⟨.inl rfl, trivial⟩⟩⟩⟩⟩)) (se_nx (eN := (fun _ : Unit => [.own 0, Sl.of K v_start, Sl.of K v_end, Sl.of K v_more, Sl.of K v_fresh_1])) (g := ()) ⟨.inr rfl, ⟨.inr rfl, ⟨.inr rfl, ⟨.inr rfl, ⟨.inr rfl, trivial⟩⟩⟩⟩⟩)) (fun _ => se_ss (ss_drop (es_meth (m := "_keep") (i := 0) (k := 0) (get := (fun b : St_Document => b)) rfl (fun _ => rfl) O_Document__keep (by decide +kernel) (es_call (ea_own (i := 0) (k := 0) rfl (ea_nil)) (fun _ => rfl) (fun _ _ => rfl) (fun _ => rfl))) fun _ => ss_put (i := 0) (k := 0) (get := (fun b : St_Document => b)) (put := (fun (b : St_Document) c => c)) (uj := (fun (x : St_Document) (y : (List (List (Tx × Tx)))) => (x.1, x.2.1, y, ()))) rfl (fun _ => rfl) (fun _ _ => rfl) (fldS (fldS fld0)) (by decide +kernel) rfl (by decide) (es_lst (el_nil)) (ss_last (ss_ret (es_meth (m := "_turn") (i := 0) (k := 0) (get := (fun b : St_Document => b)) rfl (fun _ => rfl) O_Document__turn (by decide +kernel) (es_call (ea_own (i := 0) (k := 0) rfl (ea_cons (es_var (i := 4) rfl) (ea_nil))) (fun _ => rfl) (fun _ _ => rfl) (fun _ => rfl)))))))

theorem ok_Document_replace (R : RawM K "Document" fs_Document "replace" "Document.replace" ["self", "start", "end", "fragment"] s_Document_replace) (T : Txt K mg) (D_Document__require : DfM P w K mg base (L2.CX P w) "Document" fs_Document "_require" 1 ["self", "start", "end"] (spE K (α := (Int × (Int × Unit))) (fOb K "Document" fs_Document (α := St_Document)) (fun x => m_Document__require x.1 x.2.1))) (D_Document__edit : DfM P w K mg base (L2.CX P w) "Document" fs_Document "_edit" 8 ["self", "start", "end", "more"] (spE K (α := (Int × (Int × ((List (Tx × Tx)) × Unit)))) (fOb K "Document" fs_Document (α := St_Document)) (fun x => m_Document__edit x.1 x.2.1 x.2.2.1))) (D_units : Df P w K mg base "units" 1 ["fragment"] (sp K (α := ((List (Tx × Tx)) × Unit)) f0 (fun x => m_units x.1))) : DfM P w K mg base (L2.CX P w) "Document" fs_Document "replace" 9 ["self", "start", "end", "fragment"] (spE K (α := (Int × (Int × ((List (Tx × Tx)) × Unit)))) (fOb K "Document" fs_Document (α := St_Document)) (fun x => m_Document_replace x.1 x.2.1 x.2.2.1)) := by
  obtain ⟨C_Document__require, f_Document__require, fd_Document__require, O_Document__require, g_Document__require, M_Document__require, b_Document__require⟩ := D_Document__require.ex
  obtain ⟨C_Document__edit, f_Document__edit, fd_Document__edit, O_Document__edit, g_Document__edit, M_Document__edit, b_Document__edit⟩ := D_Document__edit.ex
  obtain ⟨f_units, fd_units, g_units, m_g_units, k_g_units, b_g_units⟩ := D_units.ex
  obtain ⟨C, f, fd, O, Fn, Me, hb⟩ := R.ex
  refine ⟨C, f, fd, O, Fn.okX sc_Document_replace (spE_len (n := 4) fun _ => rfl) (fun cdv A outer s H vs Q E hr h => ?_), Me, hb⟩
  refine ⟨_, pss_cons (ps_expr (pe_methE (pv 0) O_Document__require.cl M_Document__require g_Document__require (hr.mono (by decide)) b_Document__require (fun σ => passAt (takes_of rfl rfl rfl rfl) σ) (pa_cons (pv 1) (pa_cons (pv 2) (pa_nil))))) (pss_cons (ps_ret (pe_methE (pv 0) O_Document__edit.cl M_Document__edit g_Document__edit (hr.mono (by decide)) b_Document__edit (fun σ => passAt (takes_of rfl rfl rfl rfl) σ) (pa_cons (pv 1) (pa_cons (pv 2) (pa_cons (pe_call g_units (hr.mono (by decide)) rfl m_g_units k_g_units b_g_units .nil pass0 (pa_cons (pv 3) (pa_nil))) (pa_nil)))))) pss_nil), ?_⟩
  refine run_bodyE (K := K) (ρ := (Option (T3 Int Int Tx))) (α0 := (Int × (Int × ((List (Tx × Tx)) × Unit)))) (βc := St_Document) (γ := Unit) (fc := (fOb K "Document" fs_Document (α := St_Document))) (mc := fun x => m_Document_replace x.1 x.2.1 x.2.2.1) (m := fun x => mb_Document_replace x.1 x.2.1 x.2.2.1) (eN := fun _ _ => [.un, .un, .un, .un]) (eX := fun _ => [.un, .un, .un, .un]) (N := ["self", "start", "end", "fragment"]) (k := 1) h (fun _ => rfl) 4 3 (fun _ => rfl) rfl rfl (by decide) (fun x => ?_)
  obtain ⟨v_start, v_end, v_fragment, _⟩ := x
  show Se K _ _ [.own 0, Sl.of K v_start, Sl.of K v_end, Sl.of K v_fragment] (fOb K "Document" fs_Document (α := St_Document)) (mb_Document_replace v_start v_end v_fragment) _ _
  exact se_drop (er_meth (m := "_require") (i := 0) (k := 0) (get := (fun b : St_Document => b)) rfl (fun _ => rfl) O_Document__require (by decide +kernel) (er_call (ea_own (i := 0) (k := 0) rfl (ea_cons (es_var (i := 1) rfl) (ea_cons (es_var (i := 2) rfl) (ea_nil)))) (fun _ => rfl) (fun _ _ => rfl) (fun _ => rfl))) ⟨.inl rfl, ⟨.inl rfl, ⟨.inl rfl, ⟨.inl rfl, trivial⟩⟩⟩⟩ (fun _ => se_last (se_ret (er_meth (m := "_edit") (i := 0) (k := 0) (get := (fun b : St_Document => b)) rfl (fun _ => rfl) O_Document__edit (by decide +kernel) (er_call (ea_own (i := 0) (k := 0) rfl (ea_cons (es_var (i := 1) rfl) (ea_cons (es_var (i := 2) rfl) (ea_cons (es_callP (ea_cons (es_var (i := 3) rfl) (ea_nil))) (ea_nil))))) (fun _ => rfl) (fun _ _ => rfl) (fun _ => rfl))) ⟨.inl rfl, ⟨.inl rfl, ⟨.inl rfl, ⟨.inl rfl, trivial⟩⟩⟩⟩))

theorem ok_Document_compact (R : RawM K "Document" fs_Document "compact" "Document.compact" ["self", "start", "end"] s_Document_compact) (T : Txt K mg) (D_Document__require : DfM P w K mg base (L2.CX P w) "Document" fs_Document "_require" 1 ["self", "start", "end"] (spE K (α := (Int × (Int × Unit))) (fOb K "Document" fs_Document (α := St_Document)) (fun x => m_Document__require x.1 x.2.1))) (D_Document__edit : DfM P w K mg base (L2.CX P w) "Document" fs_Document "_edit" 8 ["self", "start", "end", "more"] (spE K (α := (Int × (Int × ((List (Tx × Tx)) × Unit)))) (fOb K "Document" fs_Document (α := St_Document)) (fun x => m_Document__edit x.1 x.2.1 x.2.2.1))) (D_needed : Df P w K mg base "needed" 5 ["told"] (sp K (α := ((List (Tx × Tx)) × Unit)) f0 (fun x => m_needed x.1))) : DfM P w K mg base (L2.CX P w) "Document" fs_Document "compact" 9 ["self", "start", "end"] (spE K (α := (Int × (Int × Unit))) (fOb K "Document" fs_Document (α := St_Document)) (fun x => m_Document_compact x.1 x.2.1)) := by
  obtain ⟨C_Document__require, f_Document__require, fd_Document__require, O_Document__require, g_Document__require, M_Document__require, b_Document__require⟩ := D_Document__require.ex
  obtain ⟨C_Document__edit, f_Document__edit, fd_Document__edit, O_Document__edit, g_Document__edit, M_Document__edit, b_Document__edit⟩ := D_Document__edit.ex
  obtain ⟨f_needed, fd_needed, g_needed, m_g_needed, k_g_needed, b_g_needed⟩ := D_needed.ex
  obtain ⟨C, f, fd, O, Fn, Me, hb⟩ := R.ex
  refine ⟨C, f, fd, O, Fn.okX sc_Document_compact (spE_len (n := 3) fun _ => rfl) (fun cdv A outer s H vs Q E hr h => ?_), Me, hb⟩
  refine ⟨_, pss_cons (ps_expr (pe_methE (pv 0) O_Document__require.cl M_Document__require g_Document__require (hr.mono (by decide)) b_Document__require (fun σ => passAt (takes_of rfl rfl rfl rfl) σ) (pa_cons (pv 1) (pa_cons (pv 2) (pa_nil))))) (pss_cons (ps_ret (pe_methE (pv 0) O_Document__edit.cl M_Document__edit g_Document__edit (hr.mono (by decide)) b_Document__edit (fun σ => passAt (takes_of rfl rfl rfl rfl) σ) (pa_cons (pv 1) (pa_cons (pv 2) (pa_cons (pe_call g_needed (hr.mono (by decide)) rfl m_g_needed k_g_needed b_g_needed .nil pass0 (pa_cons (pe_slice (r := rSlL K) sl_list ((show PE _ _ (tFld K (tVar 0) "now") from pe_fld (pv 0) rfl)) (po_some (pv 1)) (po_some (pv 2))) (pa_nil))) (pa_nil)))))) pss_nil), ?_⟩
  refine run_bodyE (K := K) (ρ := (Option (T3 Int Int Tx))) (α0 := (Int × (Int × Unit))) (βc := St_Document) (γ := Unit) (fc := (fOb K "Document" fs_Document (α := St_Document))) (mc := fun x => m_Document_compact x.1 x.2.1) (m := fun x => mb_Document_compact x.1 x.2.1) (eN := fun _ _ => [.un, .un, .un]) (eX := fun _ => [.un, .un, .un]) (N := ["self", "start", "end"]) (k := 1) h (fun _ => rfl) 3 2 (fun _ => rfl) rfl rfl (by decide) (fun x => ?_)
  obtain ⟨v_start, v_end, _⟩ := x
  show Se K _ _ [.own 0, Sl.of K v_start, Sl.of K v_end] (fOb K "Document" fs_Document (α := St_Document)) (mb_Document_compact v_start v_end) _ _
  exact se_drop (er_meth (m := "_require") (i := 0) (k := 0) (get := (fun b : St_Document => b)) rfl (fun _ => rfl) O_Document__require (by decide +kernel) (er_call (ea_own (i := 0) (k := 0) rfl (ea_cons (es_var (i := 1) rfl) (ea_cons (es_var (i := 2) rfl) (ea_nil)))) (fun _ => rfl) (fun _ _ => rfl) (fun _ => rfl))) ⟨.inl rfl, ⟨.inl rfl, ⟨.inl rfl, trivial⟩⟩⟩ (fun _ => se_last (se_ret (er_meth (m := "_edit") (i := 0) (k := 0) (get := (fun b : St_Document => b)) rfl (fun _ => rfl) O_Document__edit (by decide +kernel) (er_call (ea_own (i := 0) (k := 0) rfl (ea_cons (es_var (i := 1) rfl) (ea_cons (es_var (i := 2) rfl) (ea_cons (es_callP (ea_cons (es_slice sl3_L (es_fld (i := 0) (k := 0) (get := (fun b : St_Document => b)) (pj := (fun x : St_Document => x.1)) (uj := (fun (x : St_Document) (y : (List (Tx × Tx))) => (y, x.2.1, x.2.2.1, ()))) rfl (fun _ => rfl) fld0 (by decide +kernel)) (eo_some (K := K) (es_var (i := 1) rfl)) (eo_some (K := K) (es_var (i := 2) rfl))) (ea_nil))) (ea_nil))))) (fun _ => rfl) (fun _ _ => rfl) (fun _ => rfl))) ⟨.inl rfl, ⟨.inl rfl, ⟨.inl rfl, trivial⟩⟩⟩))

theorem ok_Document_undo (R : RawM K "Document" fs_Document "undo" "Document.undo" ["self"] s_Document_undo) (T : Txt K mg) (D_GapsError___init : GeD P K mg) (D_Document__turn : DfM P w K mg base CX0 "Document" fs_Document "_turn" 7 ["self", "fresh"] (sp K (α := ((List (Tx × Tx)) × Unit)) (fOb K "Document" fs_Document (α := St_Document)) (fun x => m_Document__turn x.1))) : DfM P w K mg base (L2.CX P w) "Document" fs_Document "undo" 8 ["self"] (spE K (α := Unit) (fOb K "Document" fs_Document (α := St_Document)) (fun x => m_Document_undo)) := by
  obtain ⟨C_ge, fI_ge, I_ge, T_ge, m_ge⟩ := D_GapsError___init.ex
  obtain ⟨C_Document__turn, f_Document__turn, fd_Document__turn, O_Document__turn, g_Document__turn, M_Document__turn, b_Document__turn⟩ := D_Document__turn.ex
  obtain ⟨C, f, fd, O, Fn, Me, hb⟩ := R.ex
  refine ⟨C, f, fd, O, Fn.okX sc_Document_undo (spE_len (n := 1) fun _ => rfl) (fun cdv A outer s H vs Q E hr h => ?_), Me, hb⟩
  refine ⟨_, pss_cons (ps_if (pt_not (pt_truthK (K := K) rfl ((show PE _ _ (tFld K (tVar 0) "earlier") from pe_fld (pv 0) rfl)) (fun _ => rfl))) (pss_cons (ps_raiseGe rfl T_ge m_ge hr (takes_of rfl rfl rfl rfl) (pa_cons pe_str pa_nil)) pss_nil) (pss_nil)) (pss_cons (ps_fld (pv 0) (pe_op op_cat ((show PE _ _ (tFld K (tVar 0) "undone") from pe_fld (pv 0) rfl)) (pe_lst (pa_cons ((show PE _ _ (tFld K (tVar 0) "now") from pe_fld (pv 0) rfl)) (pa_nil)))) rfl) (pss_cons (ps_set (i := 1) sc_Document_undo.nd rfl (Or.inl rfl) (pe_ix (r := rIxL K) ix_list ((show PE _ _ (tFld K (tVar 0) "earlier") from pe_fld (pv 0) rfl)) (pe_un un_neg pe_int) (fun _ _ => rfl))) (pss_cons (ps_fld (pv 0) (pe_slice (r := rSlL K) sl_list ((show PE _ _ (tFld K (tVar 0) "earlier") from pe_fld (pv 0) rfl)) (po_none) (po_some (pe_un un_neg pe_int))) rfl) (pss_cons (ps_ret (pe_meth (pv 0) O_Document__turn.cl M_Document__turn g_Document__turn (hr.mono (by decide)) b_Document__turn .nil pass0 (pa_cons (pv 1) (pa_nil)))) pss_nil)))), ?_⟩
  refine run_bodyE (K := K) (ρ := (Option (T3 Int Int Tx))) (α0 := Unit) (βc := St_Document) (γ := Unit) (fc := (fOb K "Document" fs_Document (α := St_Document))) (mc := fun x => m_Document_undo ) (m := fun x => mb_Document_undo ) (eN := fun _ _ => [.un, .un]) (eX := fun _ => [.un, .un]) (N := ["self", "fresh"]) (k := 1) h (fun _ => rfl) 2 0 (fun _ => rfl) rfl rfl (by decide) (fun x => ?_)
  obtain _ := x
  show Se K _ _ [.own 0, .un] (fOb K "Document" fs_Document (α := St_Document)) (mb_Document_undo ) _ _
  exact se_then (e1 := (fun _ : Unit => [.own 0, .un])) (se_if (et_not (et_tru tru_list (es_fld (i := 0) (k := 0) (get := (fun b : St_Document => b)) (pj := (fun x : St_Document => x.2.1)) (uj := (fun (x : St_Document) (y : (List (List (Tx × Tx)))) => (x.1, y, x.2.2.1, ()))) rfl (fun _ => rfl) (fldS fld0) (by decide +kernel)))) (se_last (se_raise (s := "nothing to undo") I_ge (by decide +kernel) ⟨.inl rfl, ⟨.inl rfl, trivial⟩⟩)) (se_nx (eN := (fun _ : Unit => [.own 0, .un])) (g := ()) ⟨.inr rfl, ⟨.inl rfl, trivial⟩⟩)) (fun _ => se_ss (ss_put (i := 0) (k := 0) (get := (fun b : St_Document => b)) (put := (fun (b : St_Document) c => c)) (uj := (fun (x : St_Document) (y : (List (List (Tx × Tx)))) => (x.1, x.2.1, y, ()))) rfl (fun _ => rfl) (fun _ _ => rfl) (fldS (fldS fld0)) (by decide +kernel) rfl (by decide) (es_op o2_cat (es_fld (i := 0) (k := 0) (get := (fun b : St_Document => b)) (pj := (fun x : St_Document => x.2.2.1)) (uj := (fun (x : St_Document) (y : (List (List (Tx × Tx)))) => (x.1, x.2.1, y, ()))) rfl (fun _ => rfl) (fldS (fldS fld0)) (by decide +kernel)) (es_lst (el_cons (es_fld (i := 0) (k := 0) (get := (fun b : St_Document => b)) (pj := (fun x : St_Document => x.1)) (uj := (fun (x : St_Document) (y : (List (Tx × Tx))) => (y, x.2.1, x.2.2.1, ()))) rfl (fun _ => rfl) fld0 (by decide +kernel)) (el_nil)))) (ss_asg (es_op o2_ixL (es_fld (i := 0) (k := 0) (get := (fun b : St_Document => b)) (pj := (fun x : St_Document => x.2.1)) (uj := (fun (x : St_Document) (y : (List (List (Tx × Tx)))) => (x.1, y, x.2.2.1, ()))) rfl (fun _ => rfl) (fldS fld0) (by decide +kernel)) (es_negc)) tg_name fun v_fresh_1 => ss_put (i := 0) (k := 0) (get := (fun b : St_Document => b)) (put := (fun (b : St_Document) c => c)) (uj := (fun (x : St_Document) (y : (List (List (Tx × Tx)))) => (x.1, y, x.2.2.1, ()))) rfl (fun _ => rfl) (fun _ _ => rfl) (fldS fld0) (by decide +kernel) rfl (by decide) (es_slice sl3_L (es_fld (i := 0) (k := 0) (get := (fun b : St_Document => b)) (pj := (fun x : St_Document => x.2.1)) (uj := (fun (x : St_Document) (y : (List (List (Tx × Tx)))) => (x.1, y, x.2.2.1, ()))) rfl (fun _ => rfl) (fldS fld0) (by decide +kernel)) (eo_none) (eo_some (K := K) (es_negc))) (ss_last (ss_ret (es_meth (m := "_turn") (i := 0) (k := 0) (get := (fun b : St_Document => b)) rfl (fun _ => rfl) O_Document__turn (by decide +kernel) (es_call (ea_own (i := 0) (k := 0) rfl (ea_cons (es_var (i := 1) rfl) (ea_nil))) (fun _ => rfl) (fun _ _ => rfl) (fun _ => rfl))))))))

theorem ok_Document_redo (R : RawM K "Document" fs_Document "redo" "Document.redo" ["self"] s_Document_redo) (T : Txt K mg) (D_GapsError___init : GeD P K mg) (D_Document__keep : DfM P w K mg base CX0 "Document" fs_Document "_keep" 1 ["self"] (sp K (α := Unit) (fOb K "Document" fs_Document (α := St_Document)) (fun x => m_Document__keep))) (D_Document__turn : DfM P w K mg base CX0 "Document" fs_Document "_turn" 7 ["self", "fresh"] (sp K (α := ((List (Tx × Tx)) × Unit)) (fOb K "Document" fs_Document (α := St_Document)) (fun x => m_Document__turn x.1))) : DfM P w K mg base (L2.CX P w) "Document" fs_Document "redo" 8 ["self"] (spE K (α := Unit) (fOb K "Document" fs_Document (α := St_Document)) (fun x => m_Document_redo)) := by
  obtain ⟨C_ge, fI_ge, I_ge, T_ge, m_ge⟩ := D_GapsError___init.ex
  obtain ⟨C_Document__keep, f_Document__keep, fd_Document__keep, O_Document__keep, g_Document__keep, M_Document__keep, b_Document__keep⟩ := D_Document__keep.ex
  obtain ⟨C_Document__turn, f_Document__turn, fd_Document__turn, O_Document__turn, g_Document__turn, M_Document__turn, b_Document__turn⟩ := D_Document__turn.ex
  obtain ⟨C, f, fd, O, Fn, Me, hb⟩ := R.ex
  refine ⟨C, f, fd, O, Fn.okX sc_Document_redo (spE_len (n := 1) fun _ => rfl) (fun cdv A outer s H vs Q E hr h => ?_), Me, hb⟩
  refine ⟨_, pss_cons (ps_if (pt_not (pt_truthK (K := K) rfl ((show PE _ _ (tFld K (tVar 0) "undone") from pe_fld (pv 0) rfl)) (fun _ => rfl))) (pss_cons (ps_raiseGe rfl T_ge m_ge hr (takes_of rfl rfl rfl rfl) (pa_cons pe_str pa_nil)) pss_nil) (pss_nil)) (pss_cons (ps_expr (pe_meth0 (pv 0) O_Document__keep.cl M_Document__keep g_Document__keep (hr.mono (by decide)) b_Document__keep .nil pass0)) (pss_cons (ps_set (i := 1) sc_Document_redo.nd rfl (Or.inl rfl) (pe_ix (r := rIxL K) ix_list ((show PE _ _ (tFld K (tVar 0) "undone") from pe_fld (pv 0) rfl)) (pe_un un_neg pe_int) (fun _ _ => rfl))) (pss_cons (ps_fld (pv 0) (pe_slice (r := rSlL K) sl_list ((show PE _ _ (tFld K (tVar 0) "undone") from pe_fld (pv 0) rfl)) (po_none) (po_some (pe_un un_neg pe_int))) rfl) (pss_cons (ps_ret (pe_meth (pv 0) O_Document__turn.cl M_Document__turn g_Document__turn (hr.mono (by decide)) b_Document__turn .nil pass0 (pa_cons (pv 1) (pa_nil)))) pss_nil)))), ?_⟩
  refine run_bodyE (K := K) (ρ := (Option (T3 Int Int Tx))) (α0 := Unit) (βc := St_Document) (γ := Unit) (fc := (fOb K "Document" fs_Document (α := St_Document))) (mc := fun x => m_Document_redo ) (m := fun x => mb_Document_redo ) (eN := fun _ _ => [.un, .un]) (eX := fun _ => [.un, .un]) (N := ["self", "fresh"]) (k := 1) h (fun _ => rfl) 2 0 (fun _ => rfl) rfl rfl (by decide) (fun x => ?_)
  obtain _ := x
  show Se K _ _ [.own 0, .un] (fOb K "Document" fs_Document (α := St_Document)) (mb_Document_redo ) _ _
  exact se_then (e1 := (fun _ : Unit => [.own 0, .un])) (se_if (et_not (et_tru tru_list (es_fld (i := 0) (k := 0) (get := (fun b : St_Document => b)) (pj := (fun x : St_Document => x.2.2.1)) (uj := (fun (x : St_Document) (y : (List (List (Tx × Tx)))) => (x.1, x.2.1, y, ()))) rfl (fun _ => rfl) (fldS (fldS fld0)) (by decide +kernel)))) (se_last (se_raise (s := "nothing to redo") I_ge (by decide +kernel) ⟨.inl rfl, ⟨.inl rfl, trivial⟩⟩)) (se_nx (eN := (fun _ : Unit => [.own 0, .un])) (g := ()) ⟨.inr rfl, ⟨.inl rfl, trivial⟩⟩)) (fun _ => se_ss (ss_drop (es_meth (m := "_keep") (i := 0) (k := 0) (get := (fun b : St_Document => b)) rfl (fun _ => rfl) O_Document__keep (by decide +kernel) (es_call (ea_own (i := 0) (k := 0) rfl (ea_nil)) (fun _ => rfl) (fun _ _ => rfl) (fun _ => rfl))) fun _ => ss_asg (es_op o2_ixL (es_fld (i := 0) (k := 0) (get := (fun b : St_Document => b)) (pj := (fun x : St_Document => x.2.2.1)) (uj := (fun (x : St_Document) (y : (List (List (Tx × Tx)))) => (x.1, x.2.1, y, ()))) rfl (fun _ => rfl) (fldS (fldS fld0)) (by decide +kernel)) (es_negc)) tg_name fun v_fresh_1 => ss_put (i := 0) (k := 0) (get := (fun b : St_Document => b)) (put := (fun (b : St_Document) c => c)) (uj := (fun (x : St_Document) (y : (List (List (Tx × Tx)))) => (x.1, x.2.1, y, ()))) rfl (fun _ => rfl) (fun _ _ => rfl) (fldS (fldS fld0)) (by decide +kernel) rfl (by decide) (es_slice sl3_L (es_fld (i := 0) (k := 0) (get := (fun b : St_Document => b)) (pj := (fun x : St_Document => x.2.2.1)) (uj := (fun (x : St_Document) (y : (List (List (Tx × Tx)))) => (x.1, x.2.1, y, ()))) rfl (fun _ => rfl) (fldS (fldS fld0)) (by decide +kernel)) (eo_none) (eo_some (K := K) (es_negc))) (ss_last (ss_ret (es_meth (m := "_turn") (i := 0) (k := 0) (get := (fun b : St_Document => b)) rfl (fun _ => rfl) O_Document__turn (by decide +kernel) (es_call (ea_own (i := 0) (k := 0) rfl (ea_cons (es_var (i := 1) rfl) (ea_nil))) (fun _ => rfl) (fun _ _ => rfl) (fun _ => rfl)))))))

theorem ok_Document_source (R : RawM K "Document" fs_Document "source" "Document.source" ["self", "start", "end"] s_Document_source) (T : Txt K mg) (D_Document__require : DfM P w K mg base (L2.CX P w) "Document" fs_Document "_require" 1 ["self", "start", "end"] (spE K (α := (Int × (Int × Unit))) (fOb K "Document" fs_Document (α := St_Document)) (fun x => m_Document__require x.1 x.2.1))) (D_tidy : Df P w K mg base "tidy" 1 ["told"] (sp K (α := ((List (Tx × Tx)) × Unit)) f0 (fun x => m_tidy x.1))) : DfM P w K mg base (L2.CX P w) "Document" fs_Document "source" 2 ["self", "start", "end"] (spE K (α := (Int × (Int × Unit))) (fOb K "Document" fs_Document (α := St_Document)) (fun x => m_Document_source x.1 x.2.1)) := by
  obtain ⟨C_Document__require, f_Document__require, fd_Document__require, O_Document__require, g_Document__require, M_Document__require, b_Document__require⟩ := D_Document__require.ex
  obtain ⟨f_tidy, fd_tidy, g_tidy, m_g_tidy, k_g_tidy, b_g_tidy⟩ := D_tidy.ex
  obtain ⟨C, f, fd, O, Fn, Me, hb⟩ := R.ex
  refine ⟨C, f, fd, O, Fn.okX sc_Document_source (spE_len (n := 3) fun _ => rfl) (fun cdv A outer s H vs Q E hr h => ?_), Me, hb⟩
  refine ⟨_, pss_cons (ps_expr (pe_methE (pv 0) O_Document__require.cl M_Document__require g_Document__require (hr.mono (by decide)) b_Document__require (fun σ => passAt (takes_of rfl rfl rfl rfl) σ) (pa_cons (pv 1) (pa_cons (pv 2) (pa_nil))))) (pss_cons (ps_ret (pe_call g_tidy (hr.mono (by decide)) rfl m_g_tidy k_g_tidy b_g_tidy .nil pass0 (pa_cons (pe_slice (r := rSlL K) sl_list ((show PE _ _ (tFld K (tVar 0) "now") from pe_fld (pv 0) rfl)) (po_some (pv 1)) (po_some (pv 2))) (pa_nil)))) pss_nil), ?_⟩
  refine run_bodyE (K := K) (ρ := (List (Tx × Tx))) (α0 := (Int × (Int × Unit))) (βc := St_Document) (γ := Unit) (fc := (fOb K "Document" fs_Document (α := St_Document))) (mc := fun x => m_Document_source x.1 x.2.1) (m := fun x => mb_Document_source x.1 x.2.1) (eN := fun _ _ => [.un, .un, .un]) (eX := fun _ => [.un, .un, .un]) (N := ["self", "start", "end"]) (k := 1) h (fun _ => rfl) 3 2 (fun _ => rfl) rfl rfl (by decide) (fun x => ?_)
  obtain ⟨v_start, v_end, _⟩ := x
  show Se K _ _ [.own 0, Sl.of K v_start, Sl.of K v_end] (fOb K "Document" fs_Document (α := St_Document)) (mb_Document_source v_start v_end) _ _
  exact se_drop (er_meth (m := "_require") (i := 0) (k := 0) (get := (fun b : St_Document => b)) rfl (fun _ => rfl) O_Document__require (by decide +kernel) (er_call (ea_own (i := 0) (k := 0) rfl (ea_cons (es_var (i := 1) rfl) (ea_cons (es_var (i := 2) rfl) (ea_nil)))) (fun _ => rfl) (fun _ _ => rfl) (fun _ => rfl))) ⟨.inl rfl, ⟨.inl rfl, ⟨.inl rfl, trivial⟩⟩⟩ (fun _ => se_ss (ss_last (ss_ret (es_callP (ea_cons (es_slice sl3_L (es_fld (i := 0) (k := 0) (get := (fun b : St_Document => b)) (pj := (fun x : St_Document => x.1)) (uj := (fun (x : St_Document) (y : (List (Tx × Tx))) => (y, x.2.1, x.2.2.1, ()))) rfl (fun _ => rfl) fld0 (by decide +kernel)) (eo_some (K := K) (es_var (i := 1) rfl)) (eo_some (K := K) (es_var (i := 2) rfl))) (ea_nil))))))

theorem ok_law_cell (R : Raw K mg "_law_cell" ["_law_script", "_law_k"] s_law_cell) (T : Txt K mg) : Df P w K mg base "_law_cell" 1 ["_law_script", "_law_k"] (sp K (α := (Scr × (Int × Unit))) f0 (fun x => m_law_cell x.1 x.2.1)) := by
  obtain ⟨f, fd, Fn, hm, hk, hb⟩ := R.ex
  refine ⟨f, fd, Fn.ok sc_law_cell (sp_len (n := 2) fun _ => rfl) (fun cdv A outer s H vs Q E hr h => ?_), hm, hk, hb⟩
  refine ⟨_, pss_cons (ps_if (pt_cmpN op_lt (pv 1) (pe_callB (r := rLenQ K) callLenQ (by rfl) T.b_len bt_len (pa_cons (pv 0) (pa_nil)))) (pss_cons (ps_ret (pe_ix (r := rIxL K) ix_list (pv 0) (pv 1) (fun _ _ => rfl))) pss_nil) (pss_nil)) (pss_cons (ps_ret (pe_int)) pss_nil), ?_⟩
  refine @run_body K (Scr × (Int × Unit)) Int Unit Unit _ _ f0 (fun x => m_law_cell x.1 x.2.1) (fun x => mb_law_cell x.1 x.2.1) (fun _ _ => [.un, .un]) _ ["_law_script", "_law_k"] 0 vs H Q E h (fun _ => rfl) 2 2 (fun _ => rfl) rfl rfl (by decide) (fun x => ?_)
  obtain ⟨v_script, v_k, _⟩ := x
  show Ss K _ [Sl.of K v_script, Sl.of K v_k] f0 f0 (mb_law_cell v_script v_k) _
  exact ss_then (e1 := (fun g1 : Unit => [Sl.of K v_script, Sl.of K v_k])) (ss_if (et_test (K := K) (es_op o2_lt (es_var (i := 1) rfl) (es_cb cl_lenScr (ea_cons (es_var (i := 0) rfl) (ea_nil))))) (ss_last (ss_ret (es_op o2_ixScr (es_var (i := 0) rfl) (es_var (i := 1) rfl)))) (ss_nx ⟨.inr rfl, ⟨.inr rfl, trivial⟩⟩)) (fun g1 => ss_last (ss_ret (es_int))) (fun _ => ⟨0, rfl⟩)

theorem ok_law_row (R : Raw K mg "_law_row" ["_law_script", "_law_first", "_law_last"] s_law_row) (T : Txt K mg) (D_law_cell : Df P w K mg base "_law_cell" 1 ["_law_script", "_law_k"] (sp K (α := (Scr × (Int × Unit))) f0 (fun x => m_law_cell x.1 x.2.1))) : Df P w K mg base "_law_row" 2 ["_law_script", "_law_first", "_law_last"] (sp K (α := (Scr × (Int × (Int × Unit)))) f0 (fun x => m_law_row x.1 x.2.1 x.2.2.1)) := by
  obtain ⟨f_law_cell, fd_law_cell, g_law_cell, m_g_law_cell, k_g_law_cell, b_g_law_cell⟩ := D_law_cell.ex
  obtain ⟨f, fd, Fn, hm, hk, hb⟩ := R.ex
  refine ⟨f, fd, Fn.ok sc_law_row (sp_len (n := 3) fun _ => rfl) (fun cdv A outer s H vs Q E hr h => ?_), hm, hk, hb⟩
  refine ⟨_, pss_cons (ps_set (i := 3) sc_law_row.nd rfl (Or.inl rfl) (pe_lst pa_nil)) (pss_cons (ps_for PassesOwn.never rfl (pi_range2 rfl T.b_range (pa_cons (pv 1) (pa_cons (pv 2) (pa_nil)))) (pg_name (i := 4) sc_law_row.nd rfl (Or.inl rfl)) (pss_cons (ps_set (i := 5) sc_law_row.nd rfl (Or.inl rfl) (pe_call g_law_cell (hr.mono (by decide)) rfl m_g_law_cell k_g_law_cell b_g_law_cell .nil pass0 (pa_cons (pv 0) (pa_cons (pv 4) (pa_nil))))) (pss_cons (ps_set (i := 5) sc_law_row.nd rfl (Or.inl rfl) (pe_op op_add (pe_callB callAbs (by rfl) T.b_abs bt_abs (pa_cons (pe_op op_mul (pe_int) (pv 5)) (pa_nil))) (pe_callTy callInt1 (by rfl) T.b_int bt_int (pa_cons (pe_cmpN op_lt (pv 5) (pe_int)) (pa_nil))))) (pss_cons (ps_if (pt_cmpN op_gt (pv 5) (pe_op op_pow (pe_int) (pe_int))) (pss_cons (ps_for PassesOwn.never rfl (pi_range1 rfl T.b_range (pa_cons (pe_int) (pa_nil))) (pg_name (i := 6) sc_law_row.nd rfl (Or.inl rfl)) (pss_cons (ps_if (pt_cmpN op_gt (pv 5) (pe_int)) (pss_cons (ps_expr (pe_bm PySem.F.plainAttrs_list PySem.F.slot_list_append PySem.F.type_list_append mt_append (pv 3) (pa_cons (pe_op op_mod (pe_callTy callInt1 (by rfl) T.b_int bt_int (pa_cons (pv 5) (pa_nil))) (pe_int)) pa_nil))) (pss_cons (ps_set (i := 5) sc_law_row.nd rfl (Or.inl rfl) (pe_op op_fdiv (pv 5) (pe_int))) (pss_nil))) (pss_nil)) (pss_nil))) (pss_nil)) (pss_cons (ps_for PassesOwn.never rfl (pi_range1 rfl T.b_range (pa_cons (pe_int) (pa_nil))) (pg_name (i := 6) sc_law_row.nd rfl (Or.inl rfl)) (pss_cons (ps_set (i := 5) sc_law_row.nd rfl (Or.inl rfl) (pe_op op_mod (pe_callTy callInt1 (by rfl) T.b_int bt_int (pa_cons (pe_op op_add (pe_op op_add (pe_op op_mul (pv 5) (pe_int)) (pe_op op_mul (pe_int) (pe_op op_add (pv 4) (pv 6)))) (pe_int)) (pa_nil))) (pe_int))) (pss_cons (ps_expr (pe_bm PySem.F.plainAttrs_list PySem.F.slot_list_append PySem.F.type_list_append mt_append (pv 3) (pa_cons (pe_op op_mod (pe_callTy callInt1 (by rfl) T.b_int bt_int (pa_cons (pe_op op_fdiv (pv 5) (pe_int)) (pa_nil))) (pe_int)) pa_nil))) (pss_nil)))) (pss_nil))) (pss_nil))))) (pss_cons (ps_ret (pv 3)) pss_nil)), ?_⟩
  refine @run_body K (Scr × (Int × (Int × Unit))) (List Int) Unit Unit _ _ f0 (fun x => m_law_row x.1 x.2.1 x.2.2.1) (fun x => mb_law_row x.1 x.2.1 x.2.2.1) (fun _ _ => [.un, .un, .un, .un, .un, .un, .un]) _ ["_law_script", "_law_first", "_law_last", "_law_row_here", "_law_k", "_law_cell_here", "_law_turn"] 0 vs H Q E h (fun _ => rfl) 7 3 (fun _ => rfl) rfl rfl (by decide) (fun x => ?_)
  obtain ⟨v_script, v_first, v_last, _⟩ := x
  show Ss K _ [Sl.of K v_script, Sl.of K v_first, Sl.of K v_last, .un, .un, .un, .un] f0 f0 (mb_law_row v_script v_first v_last) _
  exact ss_new (α := Int) (i := 3) (k := 0) (fun _ => rfl) (fun _ => Nat.le_of_ble_eq_true rfl) (ss_then (e1 := (fun g15 : Unit => [Sl.of K v_script, Sl.of K v_first, Sl.of K v_last, .own 0, .un, .un, .un])) (ss_for (c0 := ()) (ei_range2 (ea_cons (es_var (i := 1) rfl) (ea_cons (es_var (i := 2) rfl) (ea_nil)))) ⟨.inr rfl, ⟨.inr rfl, ⟨.inr rfl, ⟨.inr rfl, ⟨.inl rfl, ⟨.inl rfl, ⟨.inl rfl, trivial⟩⟩⟩⟩⟩⟩⟩ (fun _ => tg_name) (fun c1 x2 => ss_asg (es_callP (ea_cons (es_var (i := 0) rfl) (ea_cons (es_var (i := 4) rfl) (ea_nil)))) tg_name fun v_cell_here_3 => ss_asg (es_op o2_add (es_cb cl_abs (ea_cons (es_op o2_mul (es_int) (es_var (i := 5) rfl)) (ea_nil))) (es_cb cl_intB (ea_cons (es_op o2_lt (es_var (i := 5) rfl) (es_int)) (ea_nil)))) tg_name fun v_cell_here_4 => ss_then (e1 := (fun g14 : Unit => [Sl.of K v_script, Sl.of K v_first, Sl.of K v_last, .own 0, Sl.of K x2, .un, .un])) (ss_if (et_test (K := K) (es_op o2_gt (es_var (i := 5) rfl) (es_op o2_pow (es_int) (es_int)))) (ss_then (e1 := (fun g9 : Int => [Sl.of K v_script, Sl.of K v_first, Sl.of K v_last, .own 0, Sl.of K x2, Sl.of K g9, .un])) (ss_for (c0 := v_cell_here_4) (ei_range1 (ea_cons (es_int) (ea_nil))) ⟨.inr rfl, ⟨.inr rfl, ⟨.inr rfl, ⟨.inr rfl, ⟨.inr rfl, ⟨.inr rfl, ⟨.inl rfl, trivial⟩⟩⟩⟩⟩⟩⟩ (fun _ => tg_name) (fun c5 x6 => ss_then (e1 := (fun g8 : Int => [Sl.of K v_script, Sl.of K v_first, Sl.of K v_last, .own 0, Sl.of K x2, Sl.of K g8, Sl.of K x6])) (ss_if (et_test (K := K) (es_op o2_gt (es_var (i := 5) rfl) (es_int))) (ss_app (i := 3) (k := 0) rfl (fun _ => rfl) (fun _ _ => rfl) (es_op o2_mod (es_cb cl_intI (ea_cons (es_var (i := 5) rfl) (ea_nil))) (es_int)) (ss_asg (es_op o2_fdiv (es_var (i := 5) rfl) (es_int)) tg_name fun v_cell_here_7 => ss_nx ⟨.inr rfl, ⟨.inr rfl, ⟨.inr rfl, ⟨.inr rfl, ⟨.inr rfl, ⟨.inr rfl, ⟨.inr rfl, trivial⟩⟩⟩⟩⟩⟩⟩)) (ss_nx ⟨.inr rfl, ⟨.inr rfl, ⟨.inr rfl, ⟨.inr rfl, ⟨.inr rfl, ⟨.inr rfl, ⟨.inr rfl, trivial⟩⟩⟩⟩⟩⟩⟩)) (fun g8 => ss_nx ⟨.inr rfl, ⟨.inr rfl, ⟨.inr rfl, ⟨.inr rfl, ⟨.inr rfl, ⟨.inr rfl, ⟨.inl rfl, trivial⟩⟩⟩⟩⟩⟩⟩) (fun _ => ⟨1, rfl⟩))) (fun g9 => ss_nx ⟨.inr rfl, ⟨.inr rfl, ⟨.inr rfl, ⟨.inr rfl, ⟨.inr rfl, ⟨.inl rfl, ⟨.inl rfl, trivial⟩⟩⟩⟩⟩⟩⟩) (fun _ => ⟨1, rfl⟩)) (ss_then (e1 := (fun g13 : Int => [Sl.of K v_script, Sl.of K v_first, Sl.of K v_last, .own 0, Sl.of K x2, Sl.of K g13, .un])) (ss_for (c0 := v_cell_here_4) (ei_range1 (ea_cons (es_int) (ea_nil))) ⟨.inr rfl, ⟨.inr rfl, ⟨.inr rfl, ⟨.inr rfl, ⟨.inr rfl, ⟨.inr rfl, ⟨.inl rfl, trivial⟩⟩⟩⟩⟩⟩⟩ (fun _ => tg_name) (fun c10 x11 => ss_asg (es_op o2_mod (es_cb cl_intI (ea_cons (es_op o2_add (es_op o2_add (es_op o2_mul (es_var (i := 5) rfl) (es_int)) (es_op o2_mul (es_int) (es_op o2_add (es_var (i := 4) rfl) (es_var (i := 6) rfl)))) (es_int)) (ea_nil))) (es_int)) tg_name fun v_cell_here_12 => ss_app (i := 3) (k := 0) rfl (fun _ => rfl) (fun _ _ => rfl) (es_op o2_mod (es_cb cl_intI (ea_cons (es_op o2_fdiv (es_var (i := 5) rfl) (es_int)) (ea_nil))) (es_int)) (ss_nx ⟨.inr rfl, ⟨.inr rfl, ⟨.inr rfl, ⟨.inr rfl, ⟨.inr rfl, ⟨.inr rfl, ⟨.inl rfl, trivial⟩⟩⟩⟩⟩⟩⟩))) (fun g13 => ss_nx ⟨.inr rfl, ⟨.inr rfl, ⟨.inr rfl, ⟨.inr rfl, ⟨.inr rfl, ⟨.inl rfl, ⟨.inl rfl, trivial⟩⟩⟩⟩⟩⟩⟩) (fun _ => ⟨1, rfl⟩))) (fun g14 => ss_nx ⟨.inr rfl, ⟨.inr rfl, ⟨.inr rfl, ⟨.inr rfl, ⟨.inl rfl, ⟨.inl rfl, ⟨.inl rfl, trivial⟩⟩⟩⟩⟩⟩⟩) (fun _ => ⟨1, rfl⟩))) (fun g15 => ss_frz (i := 3) (k := 0) rfl (fun _ => rfl) rfl (fun _ => Nat.le_of_ble_eq_true rfl) (fun l16 => ss_last (ss_ret (es_var (i := 3) rfl)))) (fun _ => ⟨0, rfl⟩))

theorem ok_law_draw (R : Raw K mg "_law_draw" ["_law_box", "_law_many"] s_law_draw) (T : Txt K mg) : Df P w K mg base "_law_draw" 1 ["_law_box", "_law_many"] (sp K (α := (Int × Unit)) (fB K) (fun x => m_law_draw x.1)) := by
  obtain ⟨f, fd, Fn, hm, hk, hb⟩ := R.ex
  refine ⟨f, fd, Fn.ok sc_law_draw (sp_len (n := 2) fun _ => rfl) (fun cdv A outer s H vs Q E hr h => ?_), hm, hk, hb⟩
  refine ⟨_, pss_cons (ps_set (i := 2) sc_law_draw.nd rfl (Or.inl rfl) (pe_ix (r := rIxL K) ix_list (pv 0) (pe_int) (fun _ _ => rfl))) (pss_cons (ps_asg (pe_op op_add (pv 2) (pe_int)) (pg_sub (pv 0) pe_int set_list)) (pss_cons (ps_if (pt_cmpN op_lt (pv 2) (pe_callB (r := rLenQ K) callLenQ (by rfl) T.b_len bt_len (pa_cons (pe_ix (r := rIxL K) ix_list (pv 0) (pe_int) (fun _ _ => rfl)) (pa_nil)))) (pss_cons (ps_ret (pe_op op_mod (pe_callTy callInt1 (by rfl) T.b_int bt_int (pa_cons (pe_ix (r := rIxL K) ix_list (pe_ix (r := rIxL K) ix_list (pv 0) (pe_int) (fun _ _ => rfl)) (pv 2) (fun _ _ => rfl)) (pa_nil))) (pv 1))) pss_nil) (pss_nil)) (pss_cons (ps_ret (pe_op op_mod (pe_callTy callInt1 (by rfl) T.b_int bt_int (pa_cons (pe_op op_add (pe_op op_mul (pv 2) (pe_int)) (pe_int)) (pa_nil))) (pv 1))) pss_nil))), ?_⟩
  refine @run_body K (Int × Unit) Int Bx Unit _ _ (fB K) (fun x => m_law_draw x.1) (fun x => mb_law_draw x.1) (fun _ _ => [.un, .un, .un]) _ ["_law_box", "_law_many", "_law_at"] 1 vs H Q E h (fun _ => rfl) 3 1 (fun _ => rfl) rfl rfl (by decide) (fun x => ?_)
  obtain ⟨v_many, _⟩ := x
  show Ss K _ [.own 0, Sl.of K v_many, .un] (fB K) (fB K) (mb_law_draw v_many) _
  exact ss_asg (es_box1 (i := 0) (k := 0) (get := (fun b : Bx => b)) rfl (fun _ => rfl)) tg_name fun v_at_1 => ss_box1 (i := 0) (k := 0) (get := (fun b : Bx => b)) (put := (fun (b : Bx) (c : Bx) => c)) rfl (fun _ => rfl) (fun _ _ => rfl) (es_op o2_add (es_var (i := 2) rfl) (es_int)) (ss_then (e1 := (fun g2 : Unit => [.own 0, Sl.of K v_many, Sl.of K v_at_1])) (ss_if (et_test (K := K) (es_op o2_lt (es_var (i := 2) rfl) (es_cb cl_lenL (ea_cons (es_box0 (i := 0) (k := 0) (get := (fun b : Bx => b)) rfl (fun _ => rfl)) (ea_nil))))) (ss_last (ss_ret (es_op o2_mod (es_cb cl_intI (ea_cons (es_op o2_ixL (es_box0 (i := 0) (k := 0) (get := (fun b : Bx => b)) rfl (fun _ => rfl)) (es_var (i := 2) rfl)) (ea_nil))) (es_var (i := 1) rfl)))) (ss_nx ⟨.inr rfl, ⟨.inr rfl, ⟨.inr rfl, trivial⟩⟩⟩)) (fun g2 => ss_last (ss_ret (es_op o2_mod (es_cb cl_intI (ea_cons (es_op o2_add (es_op o2_mul (es_var (i := 2) rfl) (es_int)) (es_int)) (ea_nil))) (es_var (i := 1) rfl)))) (fun _ => ⟨1, rfl⟩))

theorem ok_law_fragment (R : Raw K mg "_law_fragment" ["_law_box", "_law_most"] s_law_fragment) (T : Txt K mg) (D_law_draw : Df P w K mg base "_law_draw" 1 ["_law_box", "_law_many"] (sp K (α := (Int × Unit)) (fB K) (fun x => m_law_draw x.1))) : Df P w K mg base "_law_fragment" 2 ["_law_box", "_law_most"] (sp K (α := (Int × Unit)) (fB K) (fun x => m_law_fragment x.1)) := by
  obtain ⟨f_law_draw, fd_law_draw, g_law_draw, m_g_law_draw, k_g_law_draw, b_g_law_draw⟩ := D_law_draw.ex
  obtain ⟨f, fd, Fn, hm, hk, hb⟩ := R.ex
  refine ⟨f, fd, Fn.ok sc_law_fragment (sp_len (n := 2) fun _ => rfl) (fun cdv A outer s H vs Q E hr h => ?_), hm, hk, hb⟩
  refine ⟨_, pss_cons (ps_set (i := 2) sc_law_fragment.nd rfl (Or.inl rfl) (pe_lst pa_nil)) (pss_cons (ps_for PassesOwn.never rfl (pi_range1 rfl T.b_range (pa_cons (pe_call g_law_draw (hr.mono (by decide)) rfl m_g_law_draw k_g_law_draw b_g_law_draw .nil pass0 (pa_cons (pv 0) (pa_cons (pe_int) (pa_nil)))) (pa_nil))) (pg_name (i := 3) sc_law_fragment.nd rfl (Or.inl rfl)) (pss_cons (ps_set (i := 4) sc_law_fragment.nd rfl (Or.inl rfl) (pe_ix (r := rIxL K) ix_list (pe_lst (pa_cons (pe_str) (pa_cons (pe_str) (pa_cons (pe_str) (pa_cons (pe_str) (pa_nil)))))) (pe_call g_law_draw (hr.mono (by decide)) rfl m_g_law_draw k_g_law_draw b_g_law_draw .nil pass0 (pa_cons (pv 0) (pa_cons (pe_int) (pa_nil)))) (fun _ _ => rfl))) (pss_cons (ps_set (i := 5) sc_law_fragment.nd rfl (Or.inl rfl) (pe_str)) (pss_cons (ps_for PassesOwn.never rfl (pi_range1 rfl T.b_range (pa_cons (pe_call g_law_draw (hr.mono (by decide)) rfl m_g_law_draw k_g_law_draw b_g_law_draw .nil pass0 (pa_cons (pv 0) (pa_cons (pv 1) (pa_nil)))) (pa_nil))) (pg_name (i := 6) sc_law_fragment.nd rfl (Or.inl rfl)) (pss_cons (ps_set (i := 5) sc_law_fragment.nd rfl (Or.inl rfl) (pe_op opAddS (pv 5) (pe_ix ix_str (pe_str) (pe_call g_law_draw (hr.mono (by decide)) rfl m_g_law_draw k_g_law_draw b_g_law_draw .nil pass0 (pa_cons (pv 0) (pa_cons (pe_int) (pa_nil)))) (fun _ _ => rfl)))) (pss_nil))) (pss_cons (ps_expr (pe_bm PySem.F.plainAttrs_list PySem.F.slot_list_append PySem.F.type_list_append mt_append (pv 2) (pa_cons (pe_tup (pa_cons (pv 4) (pa_cons (pv 5) (pa_nil)))) pa_nil))) (pss_nil)))))) (pss_cons (ps_ret (pv 2)) pss_nil)), ?_⟩
  refine @run_body K (Int × Unit) (List (Tx × Tx)) Bx Unit _ _ (fB K) (fun x => m_law_fragment x.1) (fun x => mb_law_fragment x.1) (fun _ _ => [.un, .un, .un, .un, .un, .un, .un]) _ ["_law_box", "_law_most", "_law_out", "_law_k", "_law_mode", "_law_text", "_law_j"] 1 vs H Q E h (fun _ => rfl) 7 1 (fun _ => rfl) rfl rfl (by decide) (fun x => ?_)
  obtain ⟨v_most, _⟩ := x
  show Ss K _ [.own 0, Sl.of K v_most, .un, .un, .un, .un, .un] (fB K) (fB K) (mb_law_fragment v_most) _
  exact ss_new (α := (Tx × Tx)) (i := 2) (k := 1) (fun _ => rfl) (fun _ => Nat.le_of_ble_eq_true rfl) (ss_then (e1 := (fun g9 : Unit => [.own 0, Sl.of K v_most, .own 1, .un, .un, .un, .un])) (ss_for (c0 := ()) (ei_range1 (ea_cons (es_call (ea_own (i := 0) (k := 0) rfl (ea_cons (es_int) (ea_nil))) (fun _ => rfl) (fun _ _ => rfl) (fun _ => rfl)) (ea_nil))) ⟨.inr rfl, ⟨.inr rfl, ⟨.inr rfl, ⟨.inl rfl, ⟨.inl rfl, ⟨.inl rfl, ⟨.inl rfl, trivial⟩⟩⟩⟩⟩⟩⟩ (fun _ => tg_name) (fun c1 x2 => ss_asg (es_op o2_ixL (es_lst (el_cons (es_str (by decide +kernel)) (el_cons (es_str (by decide +kernel)) (el_cons (es_str (by decide +kernel)) (el_cons (es_str (by decide +kernel)) (el_nil)))))) (es_call (ea_own (i := 0) (k := 0) rfl (ea_cons (es_int) (ea_nil))) (fun _ => rfl) (fun _ _ => rfl) (fun _ => rfl))) tg_name fun v_mode_3 => ss_asg (es_str (by decide +kernel)) tg_name fun v_text_4 => ss_then (e1 := (fun g8 : Tx => [.own 0, Sl.of K v_most, .own 1, Sl.of K x2, Sl.of K v_mode_3, Sl.of K g8, .un])) (ss_for (c0 := v_text_4) (ei_range1 (ea_cons (es_call (ea_own (i := 0) (k := 0) rfl (ea_cons (es_var (i := 1) rfl) (ea_nil))) (fun _ => rfl) (fun _ _ => rfl) (fun _ => rfl)) (ea_nil))) ⟨.inr rfl, ⟨.inr rfl, ⟨.inr rfl, ⟨.inr rfl, ⟨.inr rfl, ⟨.inr rfl, ⟨.inl rfl, trivial⟩⟩⟩⟩⟩⟩⟩ (fun _ => tg_name) (fun c5 x6 => ss_asg (es_op o2_addS (es_var (i := 5) rfl) (es_op o2_ixS (es_str (by decide +kernel)) (es_call (ea_own (i := 0) (k := 0) rfl (ea_cons (es_int) (ea_nil))) (fun _ => rfl) (fun _ _ => rfl) (fun _ => rfl)))) tg_name fun v_text_7 => ss_nx ⟨.inr rfl, ⟨.inr rfl, ⟨.inr rfl, ⟨.inr rfl, ⟨.inr rfl, ⟨.inr rfl, ⟨.inl rfl, trivial⟩⟩⟩⟩⟩⟩⟩)) (fun g8 => ss_app (i := 2) (k := 1) rfl (fun _ => rfl) (fun _ _ => rfl) (es_tup2 (ea_cons (es_var (i := 4) rfl) (ea_cons (es_var (i := 5) rfl) (ea_nil)))) (ss_nx ⟨.inr rfl, ⟨.inr rfl, ⟨.inr rfl, ⟨.inl rfl, ⟨.inl rfl, ⟨.inl rfl, ⟨.inl rfl, trivial⟩⟩⟩⟩⟩⟩⟩)) (fun _ => ⟨2, rfl⟩))) (fun g9 => ss_frz (i := 2) (k := 1) rfl (fun _ => rfl) rfl (fun _ => Nat.le_of_ble_eq_true rfl) (fun l10 => ss_last (ss_ret (es_var (i := 2) rfl)))) (fun _ => ⟨1, rfl⟩))

theorem ok_law_units (R : Raw K mg "_law_units" ["_law_fragment_here"] s_law_units) (T : Txt K mg) : Df P w K mg base "_law_units" 1 ["_law_fragment_here"] (sp K (α := ((List (Tx × Tx)) × Unit)) f0 (fun x => m_law_units x.1)) := by
  obtain ⟨f, fd, Fn, hm, hk, hb⟩ := R.ex
  refine ⟨f, fd, Fn.ok sc_law_units (sp_len (n := 1) fun _ => rfl) (fun cdv A outer s H vs Q E hr h => ?_), hm, hk, hb⟩
  refine ⟨_, pss_cons (ps_set (i := 1) sc_law_units.nd rfl (Or.inl rfl) (pe_lst pa_nil)) (pss_cons (ps_for PassesOwn.never rfl (pi_list (pv 0)) (pg_tup rfl (pgs_cons (pg_name (i := 2) sc_law_units.nd rfl (Or.inr rfl)) (pgs_cons (pg_name (i := 3) sc_law_units.nd rfl (Or.inl rfl)) pgs_nil))) (pss_cons (ps_expr (pe_bm PySem.F.plainAttrs_list PySem.F.slot_list_extend PySem.F.type_list_extend mt_extend (pv 1) (pa_cons (pe_lc (own := [("_law_sign_here", 4)]) rfl sc_law_units.nd (pi_str (pv 3)) (blkOk_by (N := ["_law_fragment_here", "_law_out", "_law_mode", "_law_text", "_law_sign_here"]) (sc := defScope s_law_units) (by decide +kernel)) (fun _ _ _ _ _ => pg_name (i := 4) sc_law_units.nd rfl (Or.inl rfl)) (fun _ _ _ _ _ => pts_nil) (fun _ _ _ _ _ => pe_tup (pa_cons (pv 2) (pa_cons (pv 4) (pa_nil))))) pa_nil))) (pss_nil))) (pss_cons (ps_ret (pv 1)) pss_nil)), ?_⟩
  refine @run_body K ((List (Tx × Tx)) × Unit) (List (Tx × Tx)) Unit Unit _ _ f0 (fun x => m_law_units x.1) (fun x => mb_law_units x.1) (fun _ _ => [.un, .un, .un, .un, .un]) _ ["_law_fragment_here", "_law_out", "_law_mode", "_law_text", "_law_sign_here"] 0 vs H Q E h (fun _ => rfl) 5 1 (fun _ => rfl) rfl rfl (by decide) (fun x => ?_)
  obtain ⟨v_fragment_here, _⟩ := x
  show Ss K _ [Sl.of K v_fragment_here, .un, .un, .un, .un] f0 f0 (mb_law_units v_fragment_here) _
  exact ss_new (α := (Tx × Tx)) (i := 1) (k := 0) (fun _ => rfl) (fun _ => Nat.le_of_ble_eq_true rfl) (ss_then (e1 := (fun g4 : Unit => [Sl.of K v_fragment_here, .own 0, .un, .un, .un])) (ss_for (c0 := ()) (ei_list (es_var (i := 0) rfl)) ⟨.inr rfl, ⟨.inr rfl, ⟨.inl rfl, ⟨.inl rfl, ⟨.inl rfl, trivial⟩⟩⟩⟩⟩ (fun _ => tg_pair) (fun c1 x2 => ss_ext (i := 1) (k := 0) rfl (fun _ => rfl) (fun _ _ => rfl) (es_lc (vs := [4]) (ei_str (es_var (i := 3) rfl)) tg_name (tgw_name (by decide)) (fun x3 => et_yes) (fun x3 => es_tup2 (ea_cons (es_var (i := 2) rfl) (ea_cons (es_var (i := 4) rfl) (ea_nil))))) (ss_nx ⟨.inr rfl, ⟨.inr rfl, ⟨.inl rfl, ⟨.inl rfl, ⟨.inl rfl, trivial⟩⟩⟩⟩⟩))) (fun g4 => ss_frz (i := 1) (k := 0) rfl (fun _ => rfl) rfl (fun _ => Nat.le_of_ble_eq_true rfl) (fun l5 => ss_last (ss_ret (es_var (i := 1) rfl)))) (fun _ => ⟨0, rfl⟩))

theorem ok_law_tidy (R : Raw K mg "_law_tidy" ["_law_units_here"] s_law_tidy) (T : Txt K mg) : Df P w K mg base "_law_tidy" 1 ["_law_units_here"] (sp K (α := ((List (Tx × Tx)) × Unit)) f0 (fun x => m_law_tidy x.1)) := by
  obtain ⟨f, fd, Fn, hm, hk, hb⟩ := R.ex
  refine ⟨f, fd, Fn.ok sc_law_tidy (sp_len (n := 1) fun _ => rfl) (fun cdv A outer s H vs Q E hr h => ?_), hm, hk, hb⟩
  refine ⟨_, pss_cons (ps_set (i := 1) sc_law_tidy.nd rfl (Or.inl rfl) (pe_lst pa_nil)) (pss_cons (ps_for PassesOwn.never rfl (pi_list (pv 0)) (pg_tup rfl (pgs_cons (pg_name (i := 2) sc_law_tidy.nd rfl (Or.inl rfl)) (pgs_cons (pg_name (i := 3) sc_law_tidy.nd rfl (Or.inl rfl)) pgs_nil))) (pss_cons (ps_if (PW.pt (pw_and (pt_cmpN op_gt (pe_callB (r := rLenQ K) callLenQ (by rfl) T.b_len bt_len (pa_cons (pv 1) pa_nil)) (pe_int)) (pw_and1 (pt_cmpN op_eq (pe_ix (r := rIxT K) ix_tup (pe_ix (r := rIxL K) ix_list (pv 1) (pe_un un_neg pe_int) (fun _ _ => rfl)) (pe_int) (fun _ _ => rfl)) (pv 2))))) (pss_cons (ps_asg (pe_tup (pa_cons (pv 2) (pa_cons (pe_op opAddS (pe_ix (r := rIxT K) ix_tup (pe_ix (r := rIxL K) ix_list (pv 1) (pe_un un_neg pe_int) (fun _ _ => rfl)) (pe_int) (fun _ _ => rfl)) (pv 3)) (pa_nil)))) (pg_sub (pv 1) (pe_un un_neg pe_int) set_list)) (pss_nil)) (pss_cons (ps_expr (pe_bm PySem.F.plainAttrs_list PySem.F.slot_list_append PySem.F.type_list_append mt_append (pv 1) (pa_cons (pe_tup (pa_cons (pv 2) (pa_cons (pv 3) (pa_nil)))) pa_nil))) (pss_nil))) (pss_nil))) (pss_cons (ps_ret (pv 1)) pss_nil)), ?_⟩
  refine @run_body K ((List (Tx × Tx)) × Unit) (List (Tx × Tx)) Unit Unit _ _ f0 (fun x => m_law_tidy x.1) (fun x => mb_law_tidy x.1) (fun _ _ => [.un, .un, .un, .un]) _ ["_law_units_here", "_law_out", "_law_mode", "_law_sign_here"] 0 vs H Q E h (fun _ => rfl) 4 1 (fun _ => rfl) rfl rfl (by decide) (fun x => ?_)
  obtain ⟨v_units_here, _⟩ := x
  show Ss K _ [Sl.of K v_units_here, .un, .un, .un] f0 f0 (mb_law_tidy v_units_here) _
  exact ss_new (α := (Tx × Tx)) (i := 1) (k := 0) (fun _ => rfl) (fun _ => Nat.le_of_ble_eq_true rfl) (ss_then (e1 := (fun g4 : Unit => [Sl.of K v_units_here, .own 0, .un, .un])) (ss_for (c0 := ()) (ei_list (es_var (i := 0) rfl)) ⟨.inr rfl, ⟨.inr rfl, ⟨.inl rfl, ⟨.inl rfl, trivial⟩⟩⟩⟩ (fun _ => tg_pair) (fun c1 x2 => ss_then (e1 := (fun g3 : Unit => [Sl.of K v_units_here, .own 0, Sl.of K x2.1, Sl.of K x2.2])) (ss_if (et_and (et_test (K := K) (es_op o2_gt (es_lenO (i := 1) (k := 0) (get := (fun b : (Unit × List (Tx × Tx)) => b.2)) rfl (fun _ => rfl)) (es_int))) (et_test (K := K) (es_op o2_eqS (es_op o2_ix0 (es_peek (i := 1) (k := 0) (get := (fun b : (Unit × List (Tx × Tx)) => b.2)) rfl (fun _ => rfl) (es_negc)) (es_int)) (es_var (i := 2) rfl)))) (ss_setlast (i := 1) (k := 0) (get := (fun b : (Unit × List (Tx × Tx)) => b.2)) (put := (fun (b : (Unit × List (Tx × Tx))) l => (b.1, l))) rfl (fun _ => rfl) (fun _ _ => rfl) (es_tup2 (ea_cons (es_var (i := 2) rfl) (ea_cons (es_op o2_addS (es_op o2_ix1 (es_peek (i := 1) (k := 0) (get := (fun b : (Unit × List (Tx × Tx)) => b.2)) rfl (fun _ => rfl) (es_negc)) (es_int)) (es_var (i := 3) rfl)) (ea_nil)))) (ss_nx ⟨.inr rfl, ⟨.inr rfl, ⟨.inr rfl, ⟨.inr rfl, trivial⟩⟩⟩⟩)) (ss_app (i := 1) (k := 0) rfl (fun _ => rfl) (fun _ _ => rfl) (es_tup2 (ea_cons (es_var (i := 2) rfl) (ea_cons (es_var (i := 3) rfl) (ea_nil)))) (ss_nx ⟨.inr rfl, ⟨.inr rfl, ⟨.inr rfl, ⟨.inr rfl, trivial⟩⟩⟩⟩))) (fun g3 => ss_nx ⟨.inr rfl, ⟨.inr rfl, ⟨.inl rfl, ⟨.inl rfl, trivial⟩⟩⟩⟩) (fun _ => ⟨1, rfl⟩))) (fun g4 => ss_frz (i := 1) (k := 0) rfl (fun _ => rfl) rfl (fun _ => Nat.le_of_ble_eq_true rfl) (fun l5 => ss_last (ss_ret (es_var (i := 1) rfl)))) (fun _ => ⟨0, rfl⟩))

theorem ok_law_kind (R : Raw K mg "_law_kind" ["_law_unit"] s_law_kind) (T : Txt K mg) : Df P w K mg base "_law_kind" 2 ["_law_unit"] (sp K (α := ((Tx × Tx) × Unit)) f0 (fun x => m_law_kind x.1)) := by
  obtain ⟨f, fd, Fn, hm, hk, hb⟩ := R.ex
  refine ⟨f, fd, Fn.ok sc_law_kind (sp_len (n := 1) fun _ => rfl) (fun cdv A outer s H vs Q E hr h => ?_), hm, hk, hb⟩
  refine ⟨_, pss_cons (ps_set (i := 1) sc_law_kind.nd rfl (Or.inl rfl) (pe_ix (r := rIxT K) ix_tup (pv 0) (pe_int) (fun _ _ => rfl))) (pss_cons (ps_set (i := 2) sc_law_kind.nd rfl (Or.inl rfl) (pe_ix (r := rIxT K) ix_tup (pv 0) (pe_int) (fun _ _ => rfl))) (pss_cons (ps_if (pt_cmpN op_eq (pv 2) (pe_str)) (pss_cons (ps_ret (pe_ix (r := rIxL K) ix_list (pe_lst (pa_cons (pe_str) (pa_cons (pe_str) (pa_nil)))) (pe_callTy callInt1 (by rfl) T.b_int bt_int (pa_cons (pe_cmpN op_eq (pv 1) (pe_str)) (pa_nil))) (fun _ _ => rfl))) pss_nil) (pss_nil)) (pss_cons (ps_if (pt_cmpN op_eq (pv 2) (pe_str)) (pss_cons (ps_ret (pe_ix (r := rIxL K) ix_list (pe_lst (pa_cons (pe_str) (pa_cons (pe_str) (pa_nil)))) (pe_callTy callInt1 (by rfl) T.b_int bt_int (pa_cons (pe_cmpN op_eq (pv 1) (pe_str)) (pa_nil))) (fun _ _ => rfl))) pss_nil) (pss_nil)) (pss_cons (ps_if (pt_cmpIn opInC (pv 2) (pe_str)) (pss_cons (ps_ret (pe_dget (units1_of hr) (pe_disp (pps_cons pe_str pe_str (pps_cons pe_str pe_str (pps_cons pe_str pe_str (pps_cons pe_str pe_str (pps_nil))))) rfl rfl (by intro h; cases h) (by decide)) (pv 2) (fun _ _ => rfl))) pss_nil) (pss_nil)) (pss_cons (ps_ret (pe_ix (r := rIxL K) ix_list (pe_lst (pa_cons (pe_str) (pa_cons (pe_str) (pa_nil)))) (pe_callTy callInt1 (by rfl) T.b_int bt_int (pa_cons (pe_cmpIn opInC (pv 2) (pe_str)) (pa_nil))) (fun _ _ => rfl))) pss_nil))))), ?_⟩
  refine @run_body K ((Tx × Tx) × Unit) Tx Unit Unit _ _ f0 (fun x => m_law_kind x.1) (fun x => mb_law_kind x.1) (fun _ _ => [.un, .un, .un]) _ ["_law_unit", "_law_mode", "_law_sign_here"] 0 vs H Q E h (fun _ => rfl) 3 1 (fun _ => rfl) rfl rfl (by decide) (fun x => ?_)
  obtain ⟨v_unit, _⟩ := x
  show Ss K _ [Sl.of K v_unit, .un, .un] f0 f0 (mb_law_kind v_unit) _
  exact ss_asg (es_op o2_ix0 (es_var (i := 0) rfl) (es_int)) tg_name fun v_mode_1 => ss_asg (es_op o2_ix1 (es_var (i := 0) rfl) (es_int)) tg_name fun v_sign_here_2 => ss_then (e1 := (fun g3 : Unit => [Sl.of K v_unit, Sl.of K v_mode_1, Sl.of K v_sign_here_2])) (ss_if (et_test (K := K) (es_op o2_eqS (es_var (i := 2) rfl) (es_str (by decide +kernel)))) (ss_last (ss_ret (es_op o2_ixL (es_lst (el_cons (es_str (by decide +kernel)) (el_cons (es_str (by decide +kernel)) (el_nil)))) (es_cb cl_intB (ea_cons (es_op o2_eqS (es_var (i := 1) rfl) (es_str (by decide +kernel))) (ea_nil)))))) (ss_nx ⟨.inr rfl, ⟨.inr rfl, ⟨.inr rfl, trivial⟩⟩⟩)) (fun g3 => ss_then (e1 := (fun g4 : Unit => [Sl.of K v_unit, Sl.of K v_mode_1, Sl.of K v_sign_here_2])) (ss_if (et_test (K := K) (es_op o2_eqS (es_var (i := 2) rfl) (es_str (by decide +kernel)))) (ss_last (ss_ret (es_op o2_ixL (es_lst (el_cons (es_str (by decide +kernel)) (el_cons (es_str (by decide +kernel)) (el_nil)))) (es_cb cl_intB (ea_cons (es_op o2_eqS (es_var (i := 1) rfl) (es_str (by decide +kernel))) (ea_nil)))))) (ss_nx ⟨.inr rfl, ⟨.inr rfl, ⟨.inr rfl, trivial⟩⟩⟩)) (fun g4 => ss_then (e1 := (fun g5 : Unit => [Sl.of K v_unit, Sl.of K v_mode_1, Sl.of K v_sign_here_2])) (ss_if (et_test (K := K) (es_op o2_inS (es_var (i := 2) rfl) (es_str (by decide +kernel)))) (ss_last (ss_ret (es_dget (es_disp (ks := [("|", "end"), ("^", "zero"), ("<", "mark"), (">", "mark")]) (by decide)) (es_var (i := 2) rfl)))) (ss_nx ⟨.inr rfl, ⟨.inr rfl, ⟨.inr rfl, trivial⟩⟩⟩)) (fun g5 => ss_last (ss_ret (es_op o2_ixL (es_lst (el_cons (es_str (by decide +kernel)) (el_cons (es_str (by decide +kernel)) (el_nil)))) (es_cb cl_intB (ea_cons (es_op o2_inS (es_var (i := 2) rfl) (es_str (by decide +kernel))) (ea_nil)))))) (fun _ => ⟨0, rfl⟩)) (fun _ => ⟨0, rfl⟩)) (fun _ => ⟨0, rfl⟩)

theorem ok_law_gaps (R : Raw K mg "_law_gaps" ["_law_units_here"] s_law_gaps) (T : Txt K mg) (D_law_kind : Df P w K mg base "_law_kind" 2 ["_law_unit"] (sp K (α := ((Tx × Tx) × Unit)) f0 (fun x => m_law_kind x.1))) : Df P w K mg base "_law_gaps" 3 ["_law_units_here"] (spG K (α := ((List (Tx × Tx)) × Unit)) (fun x => m_law_gaps x.1)) := by
  obtain ⟨f_law_kind, fd_law_kind, g_law_kind, m_g_law_kind, k_g_law_kind, b_g_law_kind⟩ := D_law_kind.ex
  obtain ⟨f, fd, Fn, hm, hk, hb⟩ := R.ex
  refine ⟨f, fd, Fn.ok sc_law_gaps (spG_len (n := 1) rfl) (fun cdv A outer s H vs Q E hr h => ?_), hm, hk, hb⟩
  refine ⟨_, pss_cons (ps_setLc (i := 1) (own := [("_law_unit", 4)]) rfl sc_law_gaps.nd rfl rfl (sw_true rfl rfl rfl (by decide +kernel)) (pi_list (pv 0)) (blkOk_by (N := ["_law_units_here", "_law_kinds", "_law_gaps_here", "_law_k", "_law_unit"]) (sc := defScope s_law_gaps) (by decide +kernel)) (fun _ _ _ _ _ => pg_name (i := 4) sc_law_gaps.nd rfl (Or.inl rfl)) (fun _ _ _ _ _ => pts_nil) (fun _ _ _ _ _ => pe_call g_law_kind (hr.mono (by decide)) rfl m_g_law_kind k_g_law_kind b_g_law_kind .nil pass0 (pa_cons (pv 4) (pa_nil)))) (pss_cons (ps_set (i := 2) sc_law_gaps.nd rfl (Or.inl rfl) (pe_lst (pa_cons (pe_lst (pa_cons (pe_lst pa_nil) (pa_cons pe_non (pa_cons pe_non pa_nil)))) pa_nil))) (pss_cons (ps_for PassesOwn.never rfl (pi_range1 rfl T.b_range (pa_cons (pe_callB (r := rLenQ K) callLenQ (by rfl) T.b_len bt_len (pa_cons (pv 0) (pa_nil))) (pa_nil))) (pg_name (i := 3) sc_law_gaps.nd rfl (Or.inl rfl)) (pss_cons (ps_if (pt_cmpIn (r := rIn K false) op_in_seq (pe_ix (r := rIxL K) ix_list (pv 1) (pv 3) (fun _ _ => rfl)) (pe_tup (pa_cons (pe_str) (pa_cons (pe_str) (pa_cons (pe_str) (pa_nil)))))) (pss_cons (ps_expr (pe_bm PySem.F.plainAttrs_list PySem.F.slot_list_append PySem.F.type_list_append mt_append (pe_ix (r := rIxL K) ix_list (pe_ix (r := rIxL K) ix_list (pv 2) (pe_un un_neg pe_int) (fun _ _ => rfl)) pe_int (fun _ _ => rfl)) (pa_cons (pv 3) pa_nil))) pss_nil) (pss_cons (ps_asg (pe_ix (r := rIxL K) ix_list (pv 1) (pv 3) (fun _ _ => rfl)) (pg_sub (pe_ix (r := rIxL K) ix_list (pv 2) (pe_un un_neg pe_int) (fun _ _ => rfl)) pe_int set_list)) (pss_cons (ps_expr (pe_bm PySem.F.plainAttrs_list PySem.F.slot_list_append PySem.F.type_list_append mt_append (pv 2) (pa_cons (pe_lst (pa_cons (pe_lst pa_nil) (pa_cons (pe_ix (r := rIxL K) ix_list (pv 1) (pv 3) (fun _ _ => rfl)) (pa_cons pe_non pa_nil)))) pa_nil))) pss_nil))) pss_nil)) (pss_cons (ps_ret (pv 2)) pss_nil))), ?_⟩
  refine run_bodyG h 5 1 rfl rfl (by decide) (fun x σ F H gs D S hm q => ?_)
  obtain ⟨v_units_here, _⟩ := x
  exact run_gaps (K := K) (iK := 1) (iG := 2) (iX := 3) (es_lc (vs := [4]) (ei_list (es_var (i := 0) rfl)) tg_name (tgw_name (by decide)) (fun x1 => et_yes) (fun x1 => es_callP (ea_cons (es_var (i := 4) rfl) (ea_nil)))) (fun ks => ei_range1 (ea_cons (es_cb cl_lenL (ea_cons (es_var (i := 0) rfl) (ea_nil))) (ea_nil))) (fun ks x => et_test (K := K) (es_op o2_inT (es_op o2_ixL (es_var (i := 1) rfl) (es_var (i := 3) rfl)) (es_tpl (el_cons (es_str (by decide +kernel)) (el_cons (es_str (by decide +kernel)) (el_cons (es_str (by decide +kernel)) (el_nil))))))) (fun ks x => es_op o2_ixL (es_var (i := 1) rfl) (es_var (i := 3) rfl)) rfl rfl (by decide) (by decide) (by decide) S hm q

theorem ok_law_join (R : Raw K mg "_law_join" ["_law_one", "_law_two"] s_law_join) (T : Txt K mg) : Df P w K mg base "_law_join" 1 ["_law_one", "_law_two"] (sp K (α := ((Option Tx) × ((Option Tx) × Unit))) f0 (fun x => m_law_join x.1 x.2.1)) := by
  obtain ⟨f, fd, Fn, hm, hk, hb⟩ := R.ex
  refine ⟨f, fd, Fn.ok sc_law_join (sp_len (n := 2) fun _ => rfl) (fun cdv A outer s H vs Q E hr h => ?_), hm, hk, hb⟩
  refine ⟨_, pss_cons (ps_ret (pe_or (pe_cmpN op_eq (pv 0) (pe_str)) (pe_or (pe_cmpN op_eq (pv 1) (pe_str)) (pe_one (pe_and (pe_cmpN op_eq (pv 0) (pe_str)) (pe_one (pe_cmpN op_eq (pv 1) (pe_str)))))))) pss_nil, ?_⟩
  refine @run_body K ((Option Tx) × ((Option Tx) × Unit)) Bool Unit Unit _ _ f0 (fun x => m_law_join x.1 x.2.1) (fun x => mb_law_join x.1 x.2.1) (fun _ _ => [.un, .un]) _ ["_law_one", "_law_two"] 0 vs H Q E h (fun _ => rfl) 2 2 (fun _ => rfl) rfl rfl (by decide) (fun x => ?_)
  obtain ⟨v_one, v_two, _⟩ := x
  show Ss K _ [Sl.of K v_one, Sl.of K v_two] f0 f0 (mb_law_join v_one v_two) _
  exact ss_last (ss_ret (es_orV (es_op o2_eqS (es_var (i := 0) rfl) (es_str (by decide +kernel))) (es_orV (es_op o2_eqS (es_var (i := 1) rfl) (es_str (by decide +kernel))) (es_andV (es_op o2_eqS (es_var (i := 0) rfl) (es_str (by decide +kernel))) (es_op o2_eqS (es_var (i := 1) rfl) (es_str (by decide +kernel)))))))

theorem ok_law_kept (R : Raw K mg "_law_kept" ["_law_units_here", "_law_gap"] s_law_kept) (T : Txt K mg) (D_law_kind : Df P w K mg base "_law_kind" 2 ["_law_unit"] (sp K (α := ((Tx × Tx) × Unit)) f0 (fun x => m_law_kind x.1))) (D_law_join : Df P w K mg base "_law_join" 1 ["_law_one", "_law_two"] (sp K (α := ((Option Tx) × ((Option Tx) × Unit))) f0 (fun x => m_law_join x.1 x.2.1))) : Df P w K mg base "_law_kept" 3 ["_law_units_here", "_law_gap"] (sp K (α := ((List (Tx × Tx)) × (Lg × Unit))) f0 (fun x => m_law_kept x.1 x.2.1)) := by
  obtain ⟨f_law_kind, fd_law_kind, g_law_kind, m_g_law_kind, k_g_law_kind, b_g_law_kind⟩ := D_law_kind.ex
  obtain ⟨f_law_join, fd_law_join, g_law_join, m_g_law_join, k_g_law_join, b_g_law_join⟩ := D_law_join.ex
  obtain ⟨f, fd, Fn, hm, hk, hb⟩ := R.ex
  refine ⟨f, fd, Fn.ok sc_law_kept (sp_len (n := 2) fun _ => rfl) (fun cdv A outer s H vs Q E hr h => ?_), hm, hk, hb⟩
  refine ⟨_, pss_cons (ps_setLc (i := 2) (own := [("_law_k", 3)]) rfl sc_law_kept.nd rfl rfl (sw_true rfl rfl rfl (by decide +kernel)) (pi_list (pe_ix (r := rIxL K) ix_list (pv 1) (pe_int) (fun _ _ => rfl))) (blkOk_by (N := ["_law_units_here", "_law_gap", "_law_kinds", "_law_k"]) (sc := defScope s_law_kept) (by decide +kernel)) (fun _ _ _ _ _ => pg_name (i := 3) sc_law_kept.nd rfl (Or.inl rfl)) (fun _ _ _ _ _ => pts_nil) (fun _ _ _ _ _ => pe_call g_law_kind (hr.mono (by decide)) rfl m_g_law_kind k_g_law_kind b_g_law_kind .nil pass0 (pa_cons (pe_ix (r := rIxL K) ix_list (pv 0) (pv 3) (fun _ _ => rfl)) (pa_nil)))) (pss_cons (ps_if (PW.pt (pw_or (pt_cmpN op_eq (pe_ix (r := rIxL K) ix_list (pv 1) (pe_int) (fun _ _ => rfl)) (pe_str)) (pw_or1 (pt_cmpN op_eq (pe_ix (r := rIxL K) ix_list (pv 1) (pe_int) (fun _ _ => rfl)) (pe_str))))) (pss_cons (ps_ret (pe_un un_neg pe_int)) pss_nil) (pss_nil)) (pss_cons (ps_if (pt_cmpIn (r := rIn K false) op_in_seq (pe_str) (pv 2)) (pss_cons (ps_if (PW.pt (pw_and (pt_cmpN opNotNon (pe_ix (r := rIxL K) ix_list (pv 1) (pe_int) (fun _ _ => rfl)) (pe_non)) (pw_and (pt_cmpN opNotNon (pe_ix (r := rIxL K) ix_list (pv 1) (pe_int) (fun _ _ => rfl)) (pe_non)) (pw_and1 (pt_truthK (K := K) rfl (pe_call g_law_join (hr.mono (by decide)) rfl m_g_law_join k_g_law_join b_g_law_join .nil pass0 (pa_cons (pe_ix (r := rIxL K) ix_list (pv 1) (pe_int) (fun _ _ => rfl)) (pa_cons (pe_ix (r := rIxL K) ix_list (pv 1) (pe_int) (fun _ _ => rfl)) (pa_nil)))) (fun _ => rfl)))))) (pss_cons (ps_ret (pe_un un_neg pe_int)) pss_nil) (pss_nil)) (pss_cons (ps_ret (pe_ix (r := rIxL K) ix_list (pe_ix (r := rIxL K) ix_list (pv 1) (pe_int) (fun _ _ => rfl)) (pe_bm PySem.F.plainAttrs_list PySem.F.slot_list_index PySem.F.type_list_index mt_index (pv 2) (pa_cons (pe_str) (pa_nil))) (fun _ _ => rfl))) pss_nil)) (pss_nil)) (pss_cons (ps_if (pt_cmpIn (r := rIn K false) op_in_seq (pe_str) (pv 2)) (pss_cons (ps_ret (pe_ix (r := rIxL K) ix_list (pe_ix (r := rIxL K) ix_list (pv 1) (pe_int) (fun _ _ => rfl)) (pe_bm PySem.F.plainAttrs_list PySem.F.slot_list_index PySem.F.type_list_index mt_index (pv 2) (pa_cons (pe_str) (pa_nil))) (fun _ _ => rfl))) pss_nil) (pss_nil)) (pss_cons (ps_ret (pe_un un_neg pe_int)) pss_nil)))), ?_⟩
  refine @run_body K ((List (Tx × Tx)) × (Lg × Unit)) Int Unit Unit _ _ f0 (fun x => m_law_kept x.1 x.2.1) (fun x => mb_law_kept x.1 x.2.1) (fun _ _ => [.un, .un, .un, .un]) _ ["_law_units_here", "_law_gap", "_law_kinds", "_law_k"] 0 vs H Q E h (fun _ => rfl) 4 2 (fun _ => rfl) rfl rfl (by decide) (fun x => ?_)
  obtain ⟨v_units_here, v_gap, _⟩ := x
  show Ss K _ [Sl.of K v_units_here, Sl.of K v_gap, .un, .un] f0 f0 (mb_law_kept v_units_here v_gap) _
  exact ss_asg (es_lc (vs := [3]) (ei_list (es_op o2_lg0 (es_var (i := 1) rfl) (es_int))) tg_name (tgw_name (by decide)) (fun x1 => et_yes) (fun x1 => es_callP (ea_cons (es_op o2_ixL (es_var (i := 0) rfl) (es_var (i := 3) rfl)) (ea_nil)))) tg_name fun v_kinds_2 => ss_then (e1 := (fun g3 : Unit => [Sl.of K v_units_here, Sl.of K v_gap, Sl.of K v_kinds_2, .un])) (ss_if (et_or (et_test (K := K) (es_op o2_eqS (es_op o2_lg1 (es_var (i := 1) rfl) (es_int)) (es_str (by decide +kernel)))) (et_test (K := K) (es_op o2_eqS (es_op o2_lg2 (es_var (i := 1) rfl) (es_int)) (es_str (by decide +kernel))))) (ss_last (ss_ret (es_negc))) (ss_nx ⟨.inr rfl, ⟨.inr rfl, ⟨.inr rfl, ⟨.inl rfl, trivial⟩⟩⟩⟩)) (fun g3 => ss_then (e1 := (fun g5 : Unit => [Sl.of K v_units_here, Sl.of K v_gap, Sl.of K v_kinds_2, .un])) (ss_if (et_test (K := K) (es_op o2_inL (es_str (by decide +kernel)) (es_var (i := 2) rfl))) (ss_then (e1 := (fun g4 : Unit => [Sl.of K v_units_here, Sl.of K v_gap, Sl.of K v_kinds_2, .un])) (ss_if (et_and (et_test (K := K) (es_op o2_notN (es_op o2_lg1 (es_var (i := 1) rfl) (es_int)) (es_non))) (et_and (et_test (K := K) (es_op o2_notN (es_op o2_lg2 (es_var (i := 1) rfl) (es_int)) (es_non))) (et_tru tru_bl (es_callP (ea_cons (es_op o2_lg1 (es_var (i := 1) rfl) (es_int)) (ea_cons (es_op o2_lg2 (es_var (i := 1) rfl) (es_int)) (ea_nil))))))) (ss_last (ss_ret (es_negc))) (ss_nx ⟨.inr rfl, ⟨.inr rfl, ⟨.inr rfl, ⟨.inl rfl, trivial⟩⟩⟩⟩)) (fun g4 => ss_last (ss_ret (es_op o2_ixL (es_op o2_lg0 (es_var (i := 1) rfl) (es_int)) (es_bm mt2_index (es_var (i := 2) rfl) (ea_cons (es_str (by decide +kernel)) (ea_nil)))))) (fun _ => ⟨0, rfl⟩)) (ss_nx ⟨.inr rfl, ⟨.inr rfl, ⟨.inr rfl, ⟨.inl rfl, trivial⟩⟩⟩⟩)) (fun g5 => ss_then (e1 := (fun g6 : Unit => [Sl.of K v_units_here, Sl.of K v_gap, Sl.of K v_kinds_2, .un])) (ss_if (et_test (K := K) (es_op o2_inL (es_str (by decide +kernel)) (es_var (i := 2) rfl))) (ss_last (ss_ret (es_op o2_ixL (es_op o2_lg0 (es_var (i := 1) rfl) (es_int)) (es_bm mt2_index (es_var (i := 2) rfl) (ea_cons (es_str (by decide +kernel)) (ea_nil)))))) (ss_nx ⟨.inr rfl, ⟨.inr rfl, ⟨.inr rfl, ⟨.inl rfl, trivial⟩⟩⟩⟩)) (fun g6 => ss_last (ss_ret (es_negc))) (fun _ => ⟨0, rfl⟩)) (fun _ => ⟨0, rfl⟩)) (fun _ => ⟨0, rfl⟩)

theorem ok_law_sign (R : Raw K mg "_law_sign" ["_law_unit"] s_law_sign) (T : Txt K mg) (D_law_kind : Df P w K mg base "_law_kind" 2 ["_law_unit"] (sp K (α := ((Tx × Tx) × Unit)) f0 (fun x => m_law_kind x.1))) : Df P w K mg base "_law_sign" 3 ["_law_unit"] (sp K (α := ((Tx × Tx) × Unit)) f0 (fun x => m_law_sign x.1)) := by
  obtain ⟨f_law_kind, fd_law_kind, g_law_kind, m_g_law_kind, k_g_law_kind, b_g_law_kind⟩ := D_law_kind.ex
  obtain ⟨f, fd, Fn, hm, hk, hb⟩ := R.ex
  refine ⟨f, fd, Fn.ok sc_law_sign (sp_len (n := 1) fun _ => rfl) (fun cdv A outer s H vs Q E hr h => ?_), hm, hk, hb⟩
  refine ⟨_, pss_cons (ps_set (i := 1) sc_law_sign.nd rfl (Or.inl rfl) (pe_call g_law_kind (hr.mono (by decide)) rfl m_g_law_kind k_g_law_kind b_g_law_kind .nil pass0 (pa_cons (pv 0) (pa_nil)))) (pss_cons (ps_if (pt_cmpN op_eq (pv 1) (pe_str)) (pss_cons (ps_ret (pe_str)) pss_nil) (pss_nil)) (pss_cons (ps_if (pt_cmpIn (r := rIn K false) op_in_seq (pv 1) (pe_tup (pa_cons (pe_str) (pa_cons (pe_str) (pa_nil))))) (pss_cons (ps_ret (pe_str)) pss_nil) (pss_nil)) (pss_cons (ps_ret (pe_ix (r := rIxT K) ix_tup (pv 0) (pe_int) (fun _ _ => rfl))) pss_nil))), ?_⟩
  refine @run_body K ((Tx × Tx) × Unit) Tx Unit Unit _ _ f0 (fun x => m_law_sign x.1) (fun x => mb_law_sign x.1) (fun _ _ => [.un, .un]) _ ["_law_unit", "_law_kind_here"] 0 vs H Q E h (fun _ => rfl) 2 1 (fun _ => rfl) rfl rfl (by decide) (fun x => ?_)
  obtain ⟨v_unit, _⟩ := x
  show Ss K _ [Sl.of K v_unit, .un] f0 f0 (mb_law_sign v_unit) _
  exact ss_asg (es_callP (ea_cons (es_var (i := 0) rfl) (ea_nil))) tg_name fun v_kind_here_1 => ss_then (e1 := (fun g2 : Unit => [Sl.of K v_unit, Sl.of K v_kind_here_1])) (ss_if (et_test (K := K) (es_op o2_eqS (es_var (i := 1) rfl) (es_str (by decide +kernel)))) (ss_last (ss_ret (es_str (by decide +kernel)))) (ss_nx ⟨.inr rfl, ⟨.inr rfl, trivial⟩⟩)) (fun g2 => ss_then (e1 := (fun g3 : Unit => [Sl.of K v_unit, Sl.of K v_kind_here_1])) (ss_if (et_test (K := K) (es_op o2_inT (es_var (i := 1) rfl) (es_tpl (el_cons (es_str (by decide +kernel)) (el_cons (es_str (by decide +kernel)) (el_nil)))))) (ss_last (ss_ret (es_str (by decide +kernel)))) (ss_nx ⟨.inr rfl, ⟨.inr rfl, trivial⟩⟩)) (fun g3 => ss_last (ss_ret (es_op o2_ix1 (es_var (i := 0) rfl) (es_int)))) (fun _ => ⟨0, rfl⟩)) (fun _ => ⟨0, rfl⟩)

theorem ok_law_shown (R : Raw K mg "_law_shown" ["_law_units_here"] s_law_shown) (T : Txt K mg) (D_law_gaps : Df P w K mg base "_law_gaps" 3 ["_law_units_here"] (spG K (α := ((List (Tx × Tx)) × Unit)) (fun x => m_law_gaps x.1))) (D_law_kept : Df P w K mg base "_law_kept" 3 ["_law_units_here", "_law_gap"] (sp K (α := ((List (Tx × Tx)) × (Lg × Unit))) f0 (fun x => m_law_kept x.1 x.2.1))) (D_law_kind : Df P w K mg base "_law_kind" 2 ["_law_unit"] (sp K (α := ((Tx × Tx) × Unit)) f0 (fun x => m_law_kind x.1))) (D_law_sign : Df P w K mg base "_law_sign" 3 ["_law_unit"] (sp K (α := ((Tx × Tx) × Unit)) f0 (fun x => m_law_sign x.1))) : Df P w K mg base "_law_shown" 4 ["_law_units_here"] (sp K (α := ((List (Tx × Tx)) × Unit)) f0 (fun x => m_law_shown x.1)) := by
  obtain ⟨f_law_gaps, fd_law_gaps, g_law_gaps, m_g_law_gaps, k_g_law_gaps, b_g_law_gaps⟩ := D_law_gaps.ex
  obtain ⟨f_law_kept, fd_law_kept, g_law_kept, m_g_law_kept, k_g_law_kept, b_g_law_kept⟩ := D_law_kept.ex
  obtain ⟨f_law_kind, fd_law_kind, g_law_kind, m_g_law_kind, k_g_law_kind, b_g_law_kind⟩ := D_law_kind.ex
  obtain ⟨f_law_sign, fd_law_sign, g_law_sign, m_g_law_sign, k_g_law_sign, b_g_law_sign⟩ := D_law_sign.ex
  obtain ⟨f, fd, Fn, hm, hk, hb⟩ := R.ex
  refine ⟨f, fd, Fn.ok sc_law_shown (sp_len (n := 1) fun _ => rfl) (fun cdv A outer s H vs Q E hr h => ?_), hm, hk, hb⟩
  refine ⟨_, pss_cons (ps_set (i := 1) sc_law_shown.nd rfl (Or.inl rfl) (pe_call g_law_gaps (hr.mono (by decide)) rfl m_g_law_gaps k_g_law_gaps b_g_law_gaps .nil pass0 (pa_cons (pv 0) (pa_nil)))) (pss_cons (ps_asg pe_str (pg_sub (pe_ix (r := rIxL K) ix_list (pv 1) pe_int (fun _ _ => rfl)) pe_int set_list)) (pss_cons (ps_asg pe_str (pg_sub (pe_ix (r := rIxL K) ix_list (pv 1) (pe_un un_neg pe_int) (fun _ _ => rfl)) pe_int set_list)) (pss_cons (ps_set (i := 2) sc_law_shown.nd rfl (Or.inr rfl) (pe_lc (own := [("_law_gap", 4)]) rfl sc_law_shown.nd (pi_list (pv 1)) (blkOk_by (N := ["_law_units_here", "_law_gaps_here", "_law_kept_here", "_law_sources", "_law_gap", "_law_k"]) (sc := defScope s_law_shown) (by decide +kernel)) (fun _ _ _ _ _ => pg_name (i := 4) sc_law_shown.nd rfl (Or.inl rfl)) (fun _ _ _ _ _ => pts_nil) (fun _ _ _ _ _ => pe_call g_law_kept (hr.mono (by decide)) rfl m_g_law_kept k_g_law_kept b_g_law_kept .nil pass0 (pa_cons (pv 0) (pa_cons (pv 4) (pa_nil)))))) (pss_cons (ps_setLc (i := 3) (own := [("_law_k", 5)]) rfl sc_law_shown.nd rfl rfl (sw_true rfl rfl rfl (by decide +kernel)) (pi_range1 rfl T.b_range (pa_cons (pe_callB (r := rLenQ K) callLenQ (by rfl) T.b_len bt_len (pa_cons (pv 0) (pa_nil))) (pa_nil))) (blkOk_by (N := ["_law_units_here", "_law_gaps_here", "_law_kept_here", "_law_sources", "_law_gap", "_law_k"]) (sc := defScope s_law_shown) (by decide +kernel)) (fun _ _ _ _ _ => pg_name (i := 5) sc_law_shown.nd rfl (Or.inl rfl)) (fun _ _ _ _ _ => pts_one (PW.pt (pw_or (pt_cmpIn (r := rIn K false) op_in_seq (pv 5) (pv 2)) (pw_or1 (pt_cmpIn (r := rIn K true) op_notIn_seq (pe_call g_law_kind (hr.mono (by decide)) rfl m_g_law_kind k_g_law_kind b_g_law_kind .nil pass0 (pa_cons (pe_ix (r := rIxL K) ix_list (pv 0) (pv 5) (fun _ _ => rfl)) (pa_nil))) (pe_tup (pa_cons (pe_str) (pa_cons (pe_str) (pa_nil))))))))) (fun _ _ _ _ _ => pv 5)) (pss_cons (ps_ret (pe_lst (pa_cons (pe_bm PySem.F.plainAttrs_str PySem.F.slot_str_join PySem.F.type_str_join mtJoin (pe_str) (pa_cons (pe_lc (own := [("_law_k", 5)]) rfl sc_law_shown.nd (pi_list (pv 3)) (blkOk_by (N := ["_law_units_here", "_law_gaps_here", "_law_kept_here", "_law_sources", "_law_gap", "_law_k"]) (sc := defScope s_law_shown) (by decide +kernel)) (fun _ _ _ _ _ => pg_name (i := 5) sc_law_shown.nd rfl (Or.inl rfl)) (fun _ _ _ _ _ => pts_nil) (fun _ _ _ _ _ => pe_call g_law_sign (hr.mono (by decide)) rfl m_g_law_sign k_g_law_sign b_g_law_sign .nil pass0 (pa_cons (pe_ix (r := rIxL K) ix_list (pv 0) (pv 5) (fun _ _ => rfl)) (pa_nil)))) (pa_nil))) (pa_cons (pv 3) (pa_nil))))) pss_nil))))), ?_⟩
  refine @run_body K ((List (Tx × Tx)) × Unit) (LP Tx (List Int)) Unit Unit _ _ f0 (fun x => m_law_shown x.1) (fun x => mb_law_shown x.1) (fun _ _ => [.un, .un, .un, .un, .un, .un]) _ ["_law_units_here", "_law_gaps_here", "_law_kept_here", "_law_sources", "_law_gap", "_law_k"] 0 vs H Q E h (fun _ => rfl) 6 1 (fun _ => rfl) rfl rfl (by decide) (fun x => ?_)
  obtain ⟨v_units_here, _⟩ := x
  show Ss K _ [Sl.of K v_units_here, .un, .un, .un, .un, .un] f0 f0 (mb_law_shown v_units_here) _
  exact ss_gaps3 (i := 1) (s := "end") (e := [101, 110, 100]) (by decide +kernel) (Nat.le_of_ble_eq_true rfl) (ea_cons (es_var (i := 0) rfl) (ea_nil)) (fun g1 => ss_asg (es_lc (vs := [4]) (ei_list (es_var (i := 1) rfl)) tg_name (tgw_name (by decide)) (fun x2 => et_yes) (fun x2 => es_callP (ea_cons (es_var (i := 0) rfl) (ea_cons (es_var (i := 4) rfl) (ea_nil))))) tg_name fun v_kept_here_3 => ss_asg (es_lc (vs := [5]) (ei_range1 (ea_cons (es_cb cl_lenL (ea_cons (es_var (i := 0) rfl) (ea_nil))) (ea_nil))) tg_name (tgw_name (by decide)) (fun x4 => et_or (et_test (K := K) (es_op o2_inL (es_var (i := 5) rfl) (es_var (i := 2) rfl))) (et_test (K := K) (es_op o2_notInT (es_callP (ea_cons (es_op o2_ixL (es_var (i := 0) rfl) (es_var (i := 5) rfl)) (ea_nil))) (es_tpl (el_cons (es_str (by decide +kernel)) (el_cons (es_str (by decide +kernel)) (el_nil))))))) (fun x4 => es_var (i := 5) rfl)) tg_name fun v_sources_5 => ss_last (ss_ret (es_lp (ea_cons (es_bm mt2_join (es_str (by decide +kernel)) (ea_cons (es_lc (vs := [5]) (ei_list (es_var (i := 3) rfl)) tg_name (tgw_name (by decide)) (fun x6 => et_yes) (fun x6 => es_callP (ea_cons (es_op o2_ixL (es_var (i := 0) rfl) (es_var (i := 5) rfl)) (ea_nil)))) (ea_nil))) (ea_cons (es_var (i := 3) rfl) (ea_nil))))))

theorem ok_law_part (R : Raw K mg "_law_part" ["_law_box"] s_law_part) (T : Txt K mg) (D_law_tidy : Df P w K mg base "_law_tidy" 1 ["_law_units_here"] (sp K (α := ((List (Tx × Tx)) × Unit)) f0 (fun x => m_law_tidy x.1))) (D_law_units : Df P w K mg base "_law_units" 1 ["_law_fragment_here"] (sp K (α := ((List (Tx × Tx)) × Unit)) f0 (fun x => m_law_units x.1))) (D_law_fragment : Df P w K mg base "_law_fragment" 2 ["_law_box", "_law_most"] (sp K (α := (Int × Unit)) (fB K) (fun x => m_law_fragment x.1))) : Df P w K mg base "_law_part" 3 ["_law_box"] (sp K (α := Unit) (fB K) (fun x => m_law_part)) := by
  obtain ⟨f_law_tidy, fd_law_tidy, g_law_tidy, m_g_law_tidy, k_g_law_tidy, b_g_law_tidy⟩ := D_law_tidy.ex
  obtain ⟨f_law_units, fd_law_units, g_law_units, m_g_law_units, k_g_law_units, b_g_law_units⟩ := D_law_units.ex
  obtain ⟨f_law_fragment, fd_law_fragment, g_law_fragment, m_g_law_fragment, k_g_law_fragment, b_g_law_fragment⟩ := D_law_fragment.ex
  obtain ⟨f, fd, Fn, hm, hk, hb⟩ := R.ex
  refine ⟨f, fd, Fn.ok sc_law_part (sp_len (n := 1) fun _ => rfl) (fun cdv A outer s H vs Q E hr h => ?_), hm, hk, hb⟩
  refine ⟨_, pss_cons (ps_ret (pe_call g_law_tidy (hr.mono (by decide)) rfl m_g_law_tidy k_g_law_tidy b_g_law_tidy .nil pass0 (pa_cons (pe_call g_law_units (hr.mono (by decide)) rfl m_g_law_units k_g_law_units b_g_law_units .nil pass0 (pa_cons (pe_call g_law_fragment (hr.mono (by decide)) rfl m_g_law_fragment k_g_law_fragment b_g_law_fragment .nil pass0 (pa_cons (pv 0) (pa_cons (pe_int) (pa_nil)))) (pa_nil))) (pa_nil)))) pss_nil, ?_⟩
  refine @run_body K Unit (List (Tx × Tx)) Bx Unit _ _ (fB K) (fun x => m_law_part ) (fun x => mb_law_part ) (fun _ _ => [.un]) _ ["_law_box"] 1 vs H Q E h (fun _ => rfl) 1 0 (fun _ => rfl) rfl rfl (by decide) (fun x => ?_)
  obtain _ := x
  show Ss K _ [.own 0] (fB K) (fB K) (mb_law_part ) _
  exact ss_last (ss_ret (es_callP (ea_cons (es_callP (ea_cons (es_call (ea_own (i := 0) (k := 0) rfl (ea_cons (es_int) (ea_nil))) (fun _ => rfl) (fun _ _ => rfl) (fun _ => rfl)) (ea_nil))) (ea_nil))))

theorem ok_law_short_part (R : Raw K mg "_law_short_part" ["_law_box"] s_law_short_part) (T : Txt K mg) (D_law_draw : Df P w K mg base "_law_draw" 1 ["_law_box", "_law_many"] (sp K (α := (Int × Unit)) (fB K) (fun x => m_law_draw x.1))) : Df P w K mg base "_law_short_part" 2 ["_law_box"] (sp K (α := Unit) (fB K) (fun x => m_law_short_part)) := by
  obtain ⟨f_law_draw, fd_law_draw, g_law_draw, m_g_law_draw, k_g_law_draw, b_g_law_draw⟩ := D_law_draw.ex
  obtain ⟨f, fd, Fn, hm, hk, hb⟩ := R.ex
  refine ⟨f, fd, Fn.ok sc_law_short_part (sp_len (n := 1) fun _ => rfl) (fun cdv A outer s H vs Q E hr h => ?_), hm, hk, hb⟩
  refine ⟨_, pss_cons (ps_set (i := 1) sc_law_short_part.nd rfl (Or.inl rfl) (pe_bm PySem.F.plainAttrs_str PySem.F.slot_str_join PySem.F.type_str_join mtJoin (pe_str) (pa_cons (pe_lc (own := [("_law_k", 2)]) rfl sc_law_short_part.nd (pi_range1 rfl T.b_range (pa_cons (pe_call g_law_draw (hr.mono (by decide)) rfl m_g_law_draw k_g_law_draw b_g_law_draw .nil pass0 (pa_cons (pv 0) (pa_cons (pe_int) (pa_nil)))) (pa_nil))) (blkOk_by (N := ["_law_box", "_law_text", "_law_k"]) (sc := defScope s_law_short_part) (by decide +kernel)) (fun _ _ _ _ _ => pg_name (i := 2) sc_law_short_part.nd rfl (Or.inl rfl)) (fun _ _ _ _ _ => pts_nil) (fun _ _ _ _ _ => pe_ix ix_str (pe_str) (pe_call g_law_draw (hr.mono (by decide)) rfl m_g_law_draw k_g_law_draw b_g_law_draw .nil pass0 (pa_cons (pv 0) (pa_cons (pe_int) (pa_nil)))) (fun _ _ => rfl))) (pa_nil)))) (pss_cons (ps_ret (pe_lst (pa_cons (pe_tup (pa_cons (pe_ix (r := rIxL K) ix_list (pe_lst (pa_cons (pe_str) (pa_cons (pe_str) (pa_cons (pe_str) (pa_cons (pe_str) (pa_cons (pe_str) (pa_nil))))))) (pe_call g_law_draw (hr.mono (by decide)) rfl m_g_law_draw k_g_law_draw b_g_law_draw .nil pass0 (pa_cons (pv 0) (pa_cons (pe_int) (pa_nil)))) (fun _ _ => rfl)) (pa_cons (pv 1) (pa_nil)))) (pa_nil)))) pss_nil), ?_⟩
  refine @run_body K Unit (List (Tx × Tx)) Bx Unit _ _ (fB K) (fun x => m_law_short_part ) (fun x => mb_law_short_part ) (fun _ _ => [.un, .un, .un]) _ ["_law_box", "_law_text", "_law_k"] 1 vs H Q E h (fun _ => rfl) 3 0 (fun _ => rfl) rfl rfl (by decide) (fun x => ?_)
  obtain _ := x
  show Ss K _ [.own 0, .un, .un] (fB K) (fB K) (mb_law_short_part ) _
  exact ss_asg (es_bm mt2_join (es_str (by decide +kernel)) (ea_cons (es_lc (vs := [2]) (ei_range1 (ea_cons (es_call (ea_own (i := 0) (k := 0) rfl (ea_cons (es_int) (ea_nil))) (fun _ => rfl) (fun _ _ => rfl) (fun _ => rfl)) (ea_nil))) tg_name (tgw_name (by decide)) (fun x1 => et_yes) (fun x1 => es_op o2_ixS (es_str (by decide +kernel)) (es_call (ea_own (i := 0) (k := 0) rfl (ea_cons (es_int) (ea_nil))) (fun _ => rfl) (fun _ _ => rfl) (fun _ => rfl)))) (ea_nil))) tg_name fun v_text_2 => ss_last (ss_ret (es_lst (el_cons (es_tup2 (ea_cons (es_op o2_ixL (es_lst (el_cons (es_str (by decide +kernel)) (el_cons (es_str (by decide +kernel)) (el_cons (es_str (by decide +kernel)) (el_cons (es_str (by decide +kernel)) (el_cons (es_str (by decide +kernel)) (el_nil))))))) (es_call (ea_own (i := 0) (k := 0) rfl (ea_cons (es_int) (ea_nil))) (fun _ => rfl) (fun _ _ => rfl) (fun _ => rfl))) (ea_cons (es_var (i := 1) rfl) (ea_nil)))) (el_nil))))

theorem ok_law_deed (R : Raw K mg "_law_deed" ["_law_box", "_law_document"] s_law_deed) (T : Txt K mg) (D_law_draw : Df P w K mg base "_law_draw" 1 ["_law_box", "_law_many"] (sp K (α := (Int × Unit)) (fB K) (fun x => m_law_draw x.1))) (D_Document_length : DfM P w K mg base CX0 "Document" fs_Document "length" 1 ["self"] (sp K (α := Unit) (fOb K "Document" fs_Document (α := St_Document)) (fun x => m_Document_length))) (D_law_units : Df P w K mg base "_law_units" 1 ["_law_fragment_here"] (sp K (α := ((List (Tx × Tx)) × Unit)) f0 (fun x => m_law_units x.1))) (D_Document_content : DfM P w K mg base CX0 "Document" fs_Document "content" 2 ["self"] (sp K (α := Unit) (fOb K "Document" fs_Document (α := St_Document)) (fun x => m_Document_content))) (D_law_short_part : Df P w K mg base "_law_short_part" 2 ["_law_box"] (sp K (α := Unit) (fB K) (fun x => m_law_short_part))) (D_law_tidy : Df P w K mg base "_law_tidy" 1 ["_law_units_here"] (sp K (α := ((List (Tx × Tx)) × Unit)) f0 (fun x => m_law_tidy x.1))) (D_Document_replace : DfM P w K mg base (L2.CX P w) "Document" fs_Document "replace" 9 ["self", "start", "end", "fragment"] (spE K (α := (Int × (Int × ((List (Tx × Tx)) × Unit)))) (fOb K "Document" fs_Document (α := St_Document)) (fun x => m_Document_replace x.1 x.2.1 x.2.2.1))) (D_Document_source : DfM P w K mg base (L2.CX P w) "Document" fs_Document "source" 2 ["self", "start", "end"] (spE K (α := (Int × (Int × Unit))) (fOb K "Document" fs_Document (α := St_Document)) (fun x => m_Document_source x.1 x.2.1))) (D_shortened : Df P w K mg base "shortened" 6 ["fragment"] (sp K (α := ((List (Tx × Tx)) × Unit)) f0 (fun x => m_shortened x.1))) (D_stands_for : Df P w K mg base "stands_for" 3 ["form"] (sp K (α := ((T3 Tx Tx Tx) × Unit)) f0 (fun x => m_stands_for x.1))) (D_normal_form : Df P w K mg base "normal_form" 7 ["fragment"] (sp K (α := ((List (Tx × Tx)) × Unit)) f0 (fun x => m_normal_form x.1))) (D_Document_compact : DfM P w K mg base (L2.CX P w) "Document" fs_Document "compact" 9 ["self", "start", "end"] (spE K (α := (Int × (Int × Unit))) (fOb K "Document" fs_Document (α := St_Document)) (fun x => m_Document_compact x.1 x.2.1))) (D_GapsError___init : GeD P K mg) (D_Document_undo : DfM P w K mg base (L2.CX P w) "Document" fs_Document "undo" 8 ["self"] (spE K (α := Unit) (fOb K "Document" fs_Document (α := St_Document)) (fun x => m_Document_undo))) (D_Document_redo : DfM P w K mg base (L2.CX P w) "Document" fs_Document "redo" 8 ["self"] (spE K (α := Unit) (fOb K "Document" fs_Document (α := St_Document)) (fun x => m_Document_redo))) : Df P w K mg base "_law_deed" 10 ["_law_box", "_law_document"] (sp K (α := Unit) (extO K "Document" fs_Document (α := St_Document) (fB K)) (fun x => m_law_deed)) := by
  obtain ⟨f_law_draw, fd_law_draw, g_law_draw, m_g_law_draw, k_g_law_draw, b_g_law_draw⟩ := D_law_draw.ex
  obtain ⟨C_Document_length, f_Document_length, fd_Document_length, O_Document_length, g_Document_length, M_Document_length, b_Document_length⟩ := D_Document_length.ex
  obtain ⟨f_law_units, fd_law_units, g_law_units, m_g_law_units, k_g_law_units, b_g_law_units⟩ := D_law_units.ex
  obtain ⟨C_Document_content, f_Document_content, fd_Document_content, O_Document_content, g_Document_content, M_Document_content, b_Document_content⟩ := D_Document_content.ex
  obtain ⟨f_law_short_part, fd_law_short_part, g_law_short_part, m_g_law_short_part, k_g_law_short_part, b_g_law_short_part⟩ := D_law_short_part.ex
  obtain ⟨f_law_tidy, fd_law_tidy, g_law_tidy, m_g_law_tidy, k_g_law_tidy, b_g_law_tidy⟩ := D_law_tidy.ex
  obtain ⟨C_Document_replace, f_Document_replace, fd_Document_replace, O_Document_replace, g_Document_replace, M_Document_replace, b_Document_replace⟩ := D_Document_replace.ex
  obtain ⟨C_Document_source, f_Document_source, fd_Document_source, O_Document_source, g_Document_source, M_Document_source, b_Document_source⟩ := D_Document_source.ex
  obtain ⟨f_shortened, fd_shortened, g_shortened, m_g_shortened, k_g_shortened, b_g_shortened⟩ := D_shortened.ex
  obtain ⟨f_stands_for, fd_stands_for, g_stands_for, m_g_stands_for, k_g_stands_for, b_g_stands_for⟩ := D_stands_for.ex
  obtain ⟨f_normal_form, fd_normal_form, g_normal_form, m_g_normal_form, k_g_normal_form, b_g_normal_form⟩ := D_normal_form.ex
  obtain ⟨C_Document_compact, f_Document_compact, fd_Document_compact, O_Document_compact, g_Document_compact, M_Document_compact, b_Document_compact⟩ := D_Document_compact.ex
  obtain ⟨C_ge, fI_ge, I_ge, T_ge, m_ge⟩ := D_GapsError___init.ex
  obtain ⟨C_Document_undo, f_Document_undo, fd_Document_undo, O_Document_undo, g_Document_undo, M_Document_undo, b_Document_undo⟩ := D_Document_undo.ex
  obtain ⟨C_Document_redo, f_Document_redo, fd_Document_redo, O_Document_redo, g_Document_redo, M_Document_redo, b_Document_redo⟩ := D_Document_redo.ex
  obtain ⟨f, fd, Fn, hm, hk, hb⟩ := R.ex
  refine ⟨f, fd, Fn.ok sc_law_deed (sp_len (n := 2) fun _ => rfl) (fun cdv A outer s H vs Q E hr h => ?_), hm, hk, hb⟩
  refine ⟨_, pss_cons (ps_set (i := 2) sc_law_deed.nd rfl (Or.inl rfl) (pe_call g_law_draw (hr.mono (by decide)) rfl m_g_law_draw k_g_law_draw b_g_law_draw .nil pass0 (pa_cons (pv 0) (pa_cons (pe_int) (pa_nil))))) (pss_cons (ps_set (i := 3) sc_law_deed.nd rfl (Or.inl rfl) (pe_op op_mod (pe_callTy callInt1 (by rfl) T.b_int bt_int (pa_cons (pe_call g_law_draw (hr.mono (by decide)) rfl m_g_law_draw k_g_law_draw b_g_law_draw .nil pass0 (pa_cons (pv 0) (pa_cons (pe_int) (pa_nil)))) (pa_nil))) (pe_op op_add (pe_meth0 (pv 1) O_Document_length.cl M_Document_length g_Document_length (hr.mono (by decide)) b_Document_length .nil pass0) (pe_int)))) (pss_cons (ps_set (i := 4) sc_law_deed.nd rfl (Or.inl rfl) (pe_op op_add (pv 3) (pe_op op_mod (pe_callTy callInt1 (by rfl) T.b_int bt_int (pa_cons (pe_call g_law_draw (hr.mono (by decide)) rfl m_g_law_draw k_g_law_draw b_g_law_draw .nil pass0 (pa_cons (pv 0) (pa_cons (pe_int) (pa_nil)))) (pa_nil))) (pe_op op_sub (pe_op op_add (pe_meth0 (pv 1) O_Document_length.cl M_Document_length g_Document_length (hr.mono (by decide)) b_Document_length .nil pass0) (pe_int)) (pv 3))))) (pss_cons (ps_set (i := 5) sc_law_deed.nd rfl (Or.inl rfl) (pe_call g_law_units (hr.mono (by decide)) rfl m_g_law_units k_g_law_units b_g_law_units .nil pass0 (pa_cons (pe_meth0 (pv 1) O_Document_content.cl M_Document_content g_Document_content (hr.mono (by decide)) b_Document_content .nil pass0) (pa_nil)))) (pss_cons (ps_if (pt_cmpN op_lt (pv 2) (pe_int)) (pss_cons (ps_set (i := 6) sc_law_deed.nd rfl (Or.inl rfl) (pe_call g_law_short_part (hr.mono (by decide)) rfl m_g_law_short_part k_g_law_short_part b_g_law_short_part .nil pass0 (pa_cons (pv 0) (pa_nil)))) (pss_cons (ps_set (i := 7) sc_law_deed.nd rfl (Or.inl rfl) (pe_call g_law_tidy (hr.mono (by decide)) rfl m_g_law_tidy k_g_law_tidy b_g_law_tidy .nil pass0 (pa_cons (pe_op op_cat (pe_op op_cat (pe_slice (r := rSlL K) sl_list (pv 5) (po_none) (po_some (pv 3))) (pe_call g_law_units (hr.mono (by decide)) rfl m_g_law_units k_g_law_units b_g_law_units .nil pass0 (pa_cons (pv 6) (pa_nil)))) (pe_slice (r := rSlL K) sl_list (pv 5) (po_some (pv 4)) (po_none))) (pa_nil)))) (pss_cons (ps_ret (pe_lst (pa_cons (pe_methE (pv 1) O_Document_replace.cl M_Document_replace g_Document_replace (hr.mono (by decide)) b_Document_replace (fun σ => passAt (W := fun _ _ _ _ => False) takes0 σ) (pa_cons (pv 3) (pa_cons (pv 4) (pa_cons (pv 6) (pa_nil))))) (pa_cons (pe_bl) (pa_cons (pv 7) (pa_nil)))))) pss_nil))) (pss_nil)) (pss_cons (ps_if (pt_cmpN op_eq (pv 2) (pe_int)) (pss_cons (ps_set (i := 6) sc_law_deed.nd rfl (Or.inl rfl) (pe_methE (pv 1) O_Document_source.cl M_Document_source g_Document_source (hr.mono (by decide)) b_Document_source (fun σ => passAt (W := fun _ _ _ _ => False) takes0 σ) (pa_cons (pv 3) (pa_cons (pv 4) (pa_nil))))) (pss_cons (ps_set (i := 8) sc_law_deed.nd rfl (Or.inl rfl) (pe_ix (r := rIxL K) ix_list (pe_lst (pa_cons (pe_call g_shortened (hr.mono (by decide)) rfl m_g_shortened k_g_shortened b_g_shortened .nil pass0 (pa_cons (pv 6) (pa_nil))) (pa_cons (pe_call g_stands_for (hr.mono (by decide)) rfl m_g_stands_for k_g_stands_for b_g_stands_for .nil pass0 (pa_cons (pe_call g_normal_form (hr.mono (by decide)) rfl m_g_normal_form k_g_normal_form b_g_normal_form .nil pass0 (pa_cons (pv 6) (pa_nil))) (pa_nil))) (pa_nil)))) (pe_call g_law_draw (hr.mono (by decide)) rfl m_g_law_draw k_g_law_draw b_g_law_draw .nil pass0 (pa_cons (pv 0) (pa_cons (pe_int) (pa_nil)))) (fun _ _ => rfl))) (pss_cons (ps_set (i := 7) sc_law_deed.nd rfl (Or.inl rfl) (pe_call g_law_tidy (hr.mono (by decide)) rfl m_g_law_tidy k_g_law_tidy b_g_law_tidy .nil pass0 (pa_cons (pe_op op_cat (pe_op op_cat (pe_slice (r := rSlL K) sl_list (pv 5) (po_none) (po_some (pv 3))) (pe_call g_law_units (hr.mono (by decide)) rfl m_g_law_units k_g_law_units b_g_law_units .nil pass0 (pa_cons (pv 8) (pa_nil)))) (pe_slice (r := rSlL K) sl_list (pv 5) (po_some (pv 4)) (po_none))) (pa_nil)))) (pss_cons (ps_ret (pe_lst (pa_cons (pe_methE (pv 1) O_Document_replace.cl M_Document_replace g_Document_replace (hr.mono (by decide)) b_Document_replace (fun σ => passAt (W := fun _ _ _ _ => False) takes0 σ) (pa_cons (pv 3) (pa_cons (pv 4) (pa_cons (pv 8) (pa_nil))))) (pa_cons (pe_bl) (pa_cons (pv 7) (pa_nil)))))) pss_nil)))) (pss_nil)) (pss_cons (ps_if (pt_cmpN op_eq (pv 2) (pe_int)) (pss_cons (ps_ret (pe_lst (pa_cons (pe_methE (pv 1) O_Document_compact.cl M_Document_compact g_Document_compact (hr.mono (by decide)) b_Document_compact (fun σ => passAt (W := fun _ _ _ _ => False) takes0 σ) (pa_cons (pv 3) (pa_cons (pv 4) (pa_nil)))) (pa_cons (pe_bl) (pa_cons (pe_non) (pa_nil)))))) pss_nil) (pss_nil)) (pss_cons (ps_tryO (K := K) rfl rfl rfl ⟨rfl, by decide, Or.inl m_ge⟩ takes0 (fun W pn xe tk _ => pss_cons (ps_if (pt_cmpN op_eq (pv 2) (pe_int)) (pss_cons (ps_ret (pe_lst (pa_cons (pe_methE0 (pv 1) O_Document_undo.cl M_Document_undo g_Document_undo (hr.mono (by decide)) b_Document_undo (fun σ => passAt tk σ)) (pa_cons (pe_bl) (pa_cons (pe_non) (pa_nil)))))) pss_nil) (pss_nil)) (pss_cons (ps_ret (pe_lst (pa_cons (pe_methE0 (pv 1) O_Document_redo.cl M_Document_redo g_Document_redo (hr.mono (by decide)) b_Document_redo (fun σ => passAt tk σ)) (pa_cons (pe_bl) (pa_cons (pe_non) (pa_nil)))))) pss_nil)) (fun a oe cls dd pn hz hf => pss_cons (ps_ret (pe_lst (pa_cons (pe_non) (pa_cons (pe_bl) (pa_cons (pe_non) (pa_nil)))))) pss_nil)) (pss_nil)))))))), ?_⟩
  refine @run_body K Unit (L3 (Option (T3 Int Int Tx)) Bool (Option (List (Tx × Tx)))) (Bx × St_Document) Unit _ _ (extO K "Document" fs_Document (α := St_Document) (fB K)) (fun x => m_law_deed ) (fun x => mb_law_deed ) (fun _ _ => [.un, .un, .un, .un, .un, .un, .un, .un, .un]) _ ["_law_box", "_law_document", "_law_kind_here", "_law_start", "_law_end", "_law_units_here", "_law_part_here", "_law_due", "_law_other"] 2 vs H Q E h (fun _ => rfl) 9 0 (fun _ => rfl) rfl rfl (by decide) (fun x => ?_)
  obtain _ := x
  show Ss K _ [.own 0, .own 1, .un, .un, .un, .un, .un, .un, .un] (extO K "Document" fs_Document (α := St_Document) (fB K)) (extO K "Document" fs_Document (α := St_Document) (fB K)) (mb_law_deed ) _
  exact ss_asg (es_call (ea_own (i := 0) (k := 0) rfl (ea_cons (es_int) (ea_nil))) (fun _ => rfl) (fun _ _ => rfl) (fun _ => rfl)) tg_name fun v_kind_here_1 => ss_asg (es_op o2_mod (es_cb cl_intI (ea_cons (es_call (ea_own (i := 0) (k := 0) rfl (ea_cons (es_int) (ea_nil))) (fun _ => rfl) (fun _ _ => rfl) (fun _ => rfl)) (ea_nil))) (es_op o2_add (es_meth (m := "length") (i := 1) (k := 1) (get := (fun b : (Bx × St_Document) => b.2)) rfl (fun _ => rfl) O_Document_length (by decide +kernel) (es_call (ea_own (i := 1) (k := 1) rfl (ea_nil)) (fun _ => rfl) (fun _ _ => rfl) (fun _ => rfl))) (es_int))) tg_name fun v_start_2 => ss_asg (es_op o2_add (es_var (i := 3) rfl) (es_op o2_mod (es_cb cl_intI (ea_cons (es_call (ea_own (i := 0) (k := 0) rfl (ea_cons (es_int) (ea_nil))) (fun _ => rfl) (fun _ _ => rfl) (fun _ => rfl)) (ea_nil))) (es_op o2_sub (es_op o2_add (es_meth (m := "length") (i := 1) (k := 1) (get := (fun b : (Bx × St_Document) => b.2)) rfl (fun _ => rfl) O_Document_length (by decide +kernel) (es_call (ea_own (i := 1) (k := 1) rfl (ea_nil)) (fun _ => rfl) (fun _ _ => rfl) (fun _ => rfl))) (es_int)) (es_var (i := 3) rfl)))) tg_name fun v_end_3 => ss_asg (es_callP (ea_cons (es_meth (m := "content") (i := 1) (k := 1) (get := (fun b : (Bx × St_Document) => b.2)) rfl (fun _ => rfl) O_Document_content (by decide +kernel) (es_call (ea_own (i := 1) (k := 1) rfl (ea_nil)) (fun _ => rfl) (fun _ _ => rfl) (fun _ => rfl))) (ea_nil))) tg_name fun v_units_here_4 => ss_then (e1 := (fun g7 : Unit => [.own 0, .own 1, Sl.of K v_kind_here_1, Sl.of K v_start_2, Sl.of K v_end_3, Sl.of K v_units_here_4, .un, .un, .un])) (ss_if (et_test (K := K) (es_op o2_lt (es_var (i := 2) rfl) (es_int))) (ss_asg (es_call (ea_own (i := 0) (k := 0) rfl (ea_nil)) (fun _ => rfl) (fun _ _ => rfl) (fun _ => rfl)) tg_name fun v_part_here_5 => ss_asg (es_callP (ea_cons (es_op o2_cat (es_op o2_cat (es_slice sl3_L (es_var (i := 5) rfl) (eo_none) (eo_some (K := K) (es_var (i := 3) rfl))) (es_callP (ea_cons (es_var (i := 6) rfl) (ea_nil)))) (es_slice sl3_L (es_var (i := 5) rfl) (eo_some (K := K) (es_var (i := 4) rfl)) (eo_none))) (ea_nil))) tg_name fun v_due_6 => ss_last (ss_ret (es_l3 (ea_cons (es_of_er (er_meth (m := "replace") (i := 1) (k := 1) (get := (fun b : (Bx × St_Document) => b.2)) rfl (fun _ => rfl) O_Document_replace (by decide +kernel) (er_call (ea_own (i := 1) (k := 1) rfl (ea_cons (es_var (i := 3) rfl) (ea_cons (es_var (i := 4) rfl) (ea_cons (es_var (i := 6) rfl) (ea_nil))))) (fun _ => rfl) (fun _ _ => rfl) (fun _ => rfl)))) (ea_cons (es_bl) (ea_cons (es_cast cast_some (es_var (i := 7) rfl)) (ea_nil))))))) (ss_nx ⟨.inr rfl, ⟨.inr rfl, ⟨.inr rfl, ⟨.inr rfl, ⟨.inr rfl, ⟨.inr rfl, ⟨.inl rfl, ⟨.inl rfl, ⟨.inl rfl, trivial⟩⟩⟩⟩⟩⟩⟩⟩⟩)) (fun g7 => ss_then (e1 := (fun g11 : Unit => [.own 0, .own 1, Sl.of K v_kind_here_1, Sl.of K v_start_2, Sl.of K v_end_3, Sl.of K v_units_here_4, .un, .un, .un])) (ss_if (et_test (K := K) (es_op o2_eqS (es_var (i := 2) rfl) (es_int))) (ss_asg (es_of_er (er_meth (m := "source") (i := 1) (k := 1) (get := (fun b : (Bx × St_Document) => b.2)) rfl (fun _ => rfl) O_Document_source (by decide +kernel) (er_call (ea_own (i := 1) (k := 1) rfl (ea_cons (es_var (i := 3) rfl) (ea_cons (es_var (i := 4) rfl) (ea_nil)))) (fun _ => rfl) (fun _ _ => rfl) (fun _ => rfl)))) tg_name fun v_part_here_8 => ss_asg (es_op o2_ixL (es_lst (el_cons (es_callP (ea_cons (es_var (i := 6) rfl) (ea_nil))) (el_cons (es_callP (ea_cons (es_callP (ea_cons (es_var (i := 6) rfl) (ea_nil))) (ea_nil))) (el_nil)))) (es_call (ea_own (i := 0) (k := 0) rfl (ea_cons (es_int) (ea_nil))) (fun _ => rfl) (fun _ _ => rfl) (fun _ => rfl))) tg_name fun v_other_9 => ss_asg (es_callP (ea_cons (es_op o2_cat (es_op o2_cat (es_slice sl3_L (es_var (i := 5) rfl) (eo_none) (eo_some (K := K) (es_var (i := 3) rfl))) (es_callP (ea_cons (es_var (i := 8) rfl) (ea_nil)))) (es_slice sl3_L (es_var (i := 5) rfl) (eo_some (K := K) (es_var (i := 4) rfl)) (eo_none))) (ea_nil))) tg_name fun v_due_10 => ss_last (ss_ret (es_l3 (ea_cons (es_of_er (er_meth (m := "replace") (i := 1) (k := 1) (get := (fun b : (Bx × St_Document) => b.2)) rfl (fun _ => rfl) O_Document_replace (by decide +kernel) (er_call (ea_own (i := 1) (k := 1) rfl (ea_cons (es_var (i := 3) rfl) (ea_cons (es_var (i := 4) rfl) (ea_cons (es_var (i := 8) rfl) (ea_nil))))) (fun _ => rfl) (fun _ _ => rfl) (fun _ => rfl)))) (ea_cons (es_bl) (ea_cons (es_cast cast_some (es_var (i := 7) rfl)) (ea_nil))))))) (ss_nx ⟨.inr rfl, ⟨.inr rfl, ⟨.inr rfl, ⟨.inr rfl, ⟨.inr rfl, ⟨.inr rfl, ⟨.inl rfl, ⟨.inl rfl, ⟨.inl rfl, trivial⟩⟩⟩⟩⟩⟩⟩⟩⟩)) (fun g11 => ss_then (e1 := (fun g12 : Unit => [.own 0, .own 1, Sl.of K v_kind_here_1, Sl.of K v_start_2, Sl.of K v_end_3, Sl.of K v_units_here_4, .un, .un, .un])) (ss_if (et_test (K := K) (es_op o2_eqS (es_var (i := 2) rfl) (es_int))) (ss_last (ss_ret (es_l3 (ea_cons (es_of_er (er_meth (m := "compact") (i := 1) (k := 1) (get := (fun b : (Bx × St_Document) => b.2)) rfl (fun _ => rfl) O_Document_compact (by decide +kernel) (er_call (ea_own (i := 1) (k := 1) rfl (ea_cons (es_var (i := 3) rfl) (ea_cons (es_var (i := 4) rfl) (ea_nil)))) (fun _ => rfl) (fun _ _ => rfl) (fun _ => rfl)))) (ea_cons (es_bl) (ea_cons (es_noneO) (ea_nil))))))) (ss_nx ⟨.inr rfl, ⟨.inr rfl, ⟨.inr rfl, ⟨.inr rfl, ⟨.inr rfl, ⟨.inr rfl, ⟨.inl rfl, ⟨.inl rfl, ⟨.inl rfl, trivial⟩⟩⟩⟩⟩⟩⟩⟩⟩)) (fun g12 => ss_then (e1 := (fun g13 : Unit => [.own 0, .own 1, Sl.of K v_kind_here_1, Sl.of K v_start_2, Sl.of K v_end_3, Sl.of K v_units_here_4, .un, .un, .un])) (ss_tryN (env := [.own 0, .own 1, Sl.of K v_kind_here_1, Sl.of K v_start_2, Sl.of K v_end_3, Sl.of K v_units_here_4, .un, .un, .un]) (f := (extO K "Document" fs_Document (α := St_Document) (fB K))) (eX := [.own 0, .own 1, Sl.of K v_kind_here_1, Sl.of K v_start_2, Sl.of K v_end_3, Sl.of K v_units_here_4, .un, .un, .un]) I_ge T_ge.te (fun W => se_then (e1 := (fun _ : Unit => [.own 0, .own 1, Sl.of K v_kind_here_1, Sl.of K v_start_2, Sl.of K v_end_3, Sl.of K v_units_here_4, .un, .un, .un])) (se_if (et_test (K := K) (es_op o2_eqS (es_var (i := 2) rfl) (es_int))) (se_last (se_ret (er_l3 (eae_hd (er_meth (m := "undo") (i := 1) (k := 1) (get := (fun b : (Bx × St_Document) => b.2)) rfl (fun _ => rfl) O_Document_undo (by decide +kernel) (er_call (ea_own (i := 1) (k := 1) rfl (ea_nil)) (fun _ => rfl) (fun _ _ => rfl) (fun _ => rfl))) (ea_cons (es_bl) (ea_cons (es_noneO) (ea_nil))))) ⟨.inr rfl, ⟨.inr rfl, ⟨.inr rfl, ⟨.inr rfl, ⟨.inr rfl, ⟨.inr rfl, ⟨.inl rfl, ⟨.inl rfl, ⟨.inl rfl, trivial⟩⟩⟩⟩⟩⟩⟩⟩⟩)) (se_nx (eN := (fun _ : Unit => [.own 0, .own 1, Sl.of K v_kind_here_1, Sl.of K v_start_2, Sl.of K v_end_3, Sl.of K v_units_here_4, .un, .un, .un])) (g := ()) ⟨.inr rfl, ⟨.inr rfl, ⟨.inr rfl, ⟨.inr rfl, ⟨.inr rfl, ⟨.inr rfl, ⟨.inl rfl, ⟨.inl rfl, ⟨.inl rfl, trivial⟩⟩⟩⟩⟩⟩⟩⟩⟩)) (fun _ => se_last (se_ret (er_l3 (eae_hd (er_meth (m := "redo") (i := 1) (k := 1) (get := (fun b : (Bx × St_Document) => b.2)) rfl (fun _ => rfl) O_Document_redo (by decide +kernel) (er_call (ea_own (i := 1) (k := 1) rfl (ea_nil)) (fun _ => rfl) (fun _ _ => rfl) (fun _ => rfl))) (ea_cons (es_bl) (ea_cons (es_noneO) (ea_nil))))) ⟨.inr rfl, ⟨.inr rfl, ⟨.inr rfl, ⟨.inr rfl, ⟨.inr rfl, ⟨.inr rfl, ⟨.inl rfl, ⟨.inl rfl, ⟨.inl rfl, trivial⟩⟩⟩⟩⟩⟩⟩⟩⟩))) (ss_last (ss_ret (es_l3 (ea_cons (es_noneO) (ea_cons (es_bl) (ea_cons (es_noneO) (ea_nil)))))))) (fun g13 => ss_nx ⟨.inl rfl, ⟨.inl rfl, ⟨.inl rfl, ⟨.inl rfl, ⟨.inl rfl, ⟨.inl rfl, ⟨.inl rfl, ⟨.inl rfl, ⟨.inl rfl, trivial⟩⟩⟩⟩⟩⟩⟩⟩⟩) (fun _ => ⟨2, rfl⟩)) (fun _ => ⟨2, rfl⟩)) (fun _ => ⟨2, rfl⟩)) (fun _ => ⟨2, rfl⟩)

theorem ok_law_all (R : Raw K mg "_law_all" ["_law_document", "_law_text", "_law_which"] s_law_all) (T : Txt K mg) (D_GapsError___init : GeD P K mg) (D_changed : Df P w K mg base "changed" 1 ["one", "told"] (sp K (α := (Tx × ((Option (T3 Int Int Tx)) × Unit))) f0 (fun x => m_changed x.1 x.2.1))) (D_Document_undo : DfM P w K mg base (L2.CX P w) "Document" fs_Document "undo" 8 ["self"] (spE K (α := Unit) (fOb K "Document" fs_Document (α := St_Document)) (fun x => m_Document_undo))) (D_Document_redo : DfM P w K mg base (L2.CX P w) "Document" fs_Document "redo" 8 ["self"] (spE K (α := Unit) (fOb K "Document" fs_Document (α := St_Document)) (fun x => m_Document_redo))) : Df P w K mg base "_law_all" 9 ["_law_document", "_law_text", "_law_which"] (sp K (α := (Tx × (Int × Unit))) (fOb K "Document" fs_Document (α := St_Document)) (fun x => m_law_all x.1 x.2.1)) := by
  obtain ⟨C_ge, fI_ge, I_ge, T_ge, m_ge⟩ := D_GapsError___init.ex
  obtain ⟨f_changed, fd_changed, g_changed, m_g_changed, k_g_changed, b_g_changed⟩ := D_changed.ex
  obtain ⟨C_Document_undo, f_Document_undo, fd_Document_undo, O_Document_undo, g_Document_undo, M_Document_undo, b_Document_undo⟩ := D_Document_undo.ex
  obtain ⟨C_Document_redo, f_Document_redo, fd_Document_redo, O_Document_redo, g_Document_redo, M_Document_redo, b_Document_redo⟩ := D_Document_redo.ex
  obtain ⟨f, fd, Fn, hm, hk, hb⟩ := R.ex
  refine ⟨f, fd, Fn.ok sc_law_all (sp_len (n := 3) fun _ => rfl) (fun cdv A outer s H vs Q E hr h => ?_), hm, hk, hb⟩
  refine ⟨_, pss_cons (ps_for PassesOwn.never rfl (pi_range1 rfl T.b_range (pa_cons (pe_int) (pa_nil))) (pg_name (i := 3) sc_law_all.nd rfl (Or.inl rfl)) (pss_cons (ps_tryO (K := K) rfl rfl rfl ⟨rfl, by decide, Or.inl m_ge⟩ takes0 (fun W pn xe tk _ => pss_cons (ps_if (pt_cmpN op_eq (pv 2) (pe_int)) (pss_cons (ps_set (i := 1) sc_law_all.nd rfl (Or.inl rfl) (pe_call g_changed (hr.mono (by decide)) rfl m_g_changed k_g_changed b_g_changed .nil pass0 (pa_cons (pv 1) (pa_cons (pe_methE0 (pv 0) O_Document_undo.cl M_Document_undo g_Document_undo (hr.mono (by decide)) b_Document_undo (fun σ => passAt tk σ)) pa_nil)))) (pss_nil)) (pss_cons (ps_set (i := 1) sc_law_all.nd rfl (Or.inl rfl) (pe_call g_changed (hr.mono (by decide)) rfl m_g_changed k_g_changed b_g_changed .nil pass0 (pa_cons (pv 1) (pa_cons (pe_methE0 (pv 0) O_Document_redo.cl M_Document_redo g_Document_redo (hr.mono (by decide)) b_Document_redo (fun σ => passAt tk σ)) pa_nil)))) (pss_nil))) pss_nil) (fun a oe cls dd pn hz hf => pss_cons (ps_ret (pv 1)) pss_nil)) (pss_nil))) (pss_cons (ps_ret (pe_non)) pss_nil), ?_⟩
  refine @run_body K (Tx × (Int × Unit)) (Option Tx) St_Document Unit _ _ (fOb K "Document" fs_Document (α := St_Document)) (fun x => m_law_all x.1 x.2.1) (fun x => mb_law_all x.1 x.2.1) (fun _ _ => [.un, .un, .un, .un]) _ ["_law_document", "_law_text", "_law_which", "_law_turn"] 1 vs H Q E h (fun _ => rfl) 4 2 (fun _ => rfl) rfl rfl (by decide) (fun x => ?_)
  obtain ⟨v_text, v_which, _⟩ := x
  show Ss K _ [.own 0, Sl.of K v_text, Sl.of K v_which, .un] (fOb K "Document" fs_Document (α := St_Document)) (fOb K "Document" fs_Document (α := St_Document)) (mb_law_all v_text v_which) _
  exact ss_then (e1 := (fun g6 : Tx => [.own 0, Sl.of K g6, Sl.of K v_which, .un])) (ss_for (c0 := v_text) (ei_range1 (ea_cons (es_int) (ea_nil))) ⟨.inr rfl, ⟨.inr rfl, ⟨.inr rfl, ⟨.inl rfl, trivial⟩⟩⟩⟩ (fun _ => tg_name) (fun c1 x2 => ss_then (e1 := (fun g3 : Tx => [.own 0, Sl.of K g3, Sl.of K v_which, Sl.of K x2])) (ss_tryN (env := [.own 0, Sl.of K c1, Sl.of K v_which, Sl.of K x2]) (f := (fOb K "Document" fs_Document (α := St_Document))) (eX := [.own 0, Sl.of K c1, Sl.of K v_which, Sl.of K x2]) I_ge T_ge.te (fun W => se_last (se_if (et_test (K := K) (es_op o2_eqS (es_var (i := 2) rfl) (es_int))) (se_asgE (er_ca (eae_cons (es_var (i := 1) rfl) (eae_hd (er_meth (m := "undo") (i := 0) (k := 0) (get := (fun b : St_Document => b)) rfl (fun _ => rfl) O_Document_undo (by decide +kernel) (er_call (ea_own (i := 0) (k := 0) rfl (ea_nil)) (fun _ => rfl) (fun _ _ => rfl) (fun _ => rfl))) ea_nil))) ⟨.inr rfl, ⟨.inr rfl, ⟨.inr rfl, ⟨.inr rfl, trivial⟩⟩⟩⟩ (tg_name (i := 1)) fun v_text_4 => se_nx (eN := (fun g3 : Tx => [.own 0, Sl.of K g3, Sl.of K v_which, Sl.of K x2])) (g := v_text_4) ⟨.inr rfl, ⟨.inr rfl, ⟨.inr rfl, ⟨.inr rfl, trivial⟩⟩⟩⟩) (se_asgE (er_ca (eae_cons (es_var (i := 1) rfl) (eae_hd (er_meth (m := "redo") (i := 0) (k := 0) (get := (fun b : St_Document => b)) rfl (fun _ => rfl) O_Document_redo (by decide +kernel) (er_call (ea_own (i := 0) (k := 0) rfl (ea_nil)) (fun _ => rfl) (fun _ _ => rfl) (fun _ => rfl))) ea_nil))) ⟨.inr rfl, ⟨.inr rfl, ⟨.inr rfl, ⟨.inr rfl, trivial⟩⟩⟩⟩ (tg_name (i := 1)) fun v_text_5 => se_nx (eN := (fun g3 : Tx => [.own 0, Sl.of K g3, Sl.of K v_which, Sl.of K x2])) (g := v_text_5) ⟨.inr rfl, ⟨.inr rfl, ⟨.inr rfl, ⟨.inr rfl, trivial⟩⟩⟩⟩))) (ss_last (ss_ret (es_cast cast_some (es_var (i := 1) rfl))))) (fun g3 => ss_nx ⟨.inr rfl, ⟨.inr rfl, ⟨.inr rfl, ⟨.inl rfl, trivial⟩⟩⟩⟩) (fun _ => ⟨1, rfl⟩))) (fun g6 => ss_last (ss_ret (es_noneO))) (fun _ => ⟨1, rfl⟩)

theorem ok_law {f : Addr} {fd : FuncData} (Fn : Fun K "law" "law" s_law f fd) (T : Txt K mg) (D_law_row : Df P w K mg base "_law_row" 2 ["_law_script", "_law_first", "_law_last"] (sp K (α := (Scr × (Int × (Int × Unit)))) f0 (fun x => m_law_row x.1 x.2.1 x.2.2.1))) (D_law_part : Df P w K mg base "_law_part" 3 ["_law_box"] (sp K (α := Unit) (fB K) (fun x => m_law_part))) (D_Document___init : DfI P w K mg base "Document" fs_Document 2 ["self", "fragment"] (fun C => spOb K C fs_Document (α0 := ((List (Tx × Tx)) × Unit)) (fun x => m_Document___init x.1))) (D_Document_text : DfM P w K mg base CX0 "Document" fs_Document "text" 6 ["self"] (sp K (α := Unit) (fOb K "Document" fs_Document (α := St_Document)) (fun x => m_Document_text))) (D_law_draw : Df P w K mg base "_law_draw" 1 ["_law_box", "_law_many"] (sp K (α := (Int × Unit)) (fB K) (fun x => m_law_draw x.1))) (D_law_deed : Df P w K mg base "_law_deed" 10 ["_law_box", "_law_document"] (sp K (α := Unit) (extO K "Document" fs_Document (α := St_Document) (fB K)) (fun x => m_law_deed))) (D_Document_content : DfM P w K mg base CX0 "Document" fs_Document "content" 2 ["self"] (sp K (α := Unit) (fOb K "Document" fs_Document (α := St_Document)) (fun x => m_Document_content))) (D_changed : Df P w K mg base "changed" 1 ["one", "told"] (sp K (α := (Tx × ((Option (T3 Int Int Tx)) × Unit))) f0 (fun x => m_changed x.1 x.2.1))) (D_law_shown : Df P w K mg base "_law_shown" 4 ["_law_units_here"] (sp K (α := ((List (Tx × Tx)) × Unit)) f0 (fun x => m_law_shown x.1))) (D_law_units : Df P w K mg base "_law_units" 1 ["_law_fragment_here"] (sp K (α := ((List (Tx × Tx)) × Unit)) f0 (fun x => m_law_units x.1))) (D_law_all : Df P w K mg base "_law_all" 9 ["_law_document", "_law_text", "_law_which"] (sp K (α := (Tx × (Int × Unit))) (fOb K "Document" fs_Document (α := St_Document)) (fun x => m_law_all x.1 x.2.1))) : FnOk P w K mg base CX0 11 f fd ["_law_script"] (sp K (α := (Scr × Unit)) f0 (fun x => m_law x.1)) := by
  obtain ⟨f_law_row, fd_law_row, g_law_row, m_g_law_row, k_g_law_row, b_g_law_row⟩ := D_law_row.ex
  obtain ⟨f_law_part, fd_law_part, g_law_part, m_g_law_part, k_g_law_part, b_g_law_part⟩ := D_law_part.ex
  obtain ⟨C_Document___init, f_Document___init, fd_Document___init, O_Document___init, M_Document___init, g_Document___init, m_Document___init_g, b_Document___init⟩ := D_Document___init.ex
  obtain ⟨C_Document_text, f_Document_text, fd_Document_text, O_Document_text, g_Document_text, M_Document_text, b_Document_text⟩ := D_Document_text.ex
  obtain ⟨f_law_draw, fd_law_draw, g_law_draw, m_g_law_draw, k_g_law_draw, b_g_law_draw⟩ := D_law_draw.ex
  obtain ⟨f_law_deed, fd_law_deed, g_law_deed, m_g_law_deed, k_g_law_deed, b_g_law_deed⟩ := D_law_deed.ex
  obtain ⟨C_Document_content, f_Document_content, fd_Document_content, O_Document_content, g_Document_content, M_Document_content, b_Document_content⟩ := D_Document_content.ex
  obtain ⟨f_changed, fd_changed, g_changed, m_g_changed, k_g_changed, b_g_changed⟩ := D_changed.ex
  obtain ⟨f_law_shown, fd_law_shown, g_law_shown, m_g_law_shown, k_g_law_shown, b_g_law_shown⟩ := D_law_shown.ex
  obtain ⟨f_law_units, fd_law_units, g_law_units, m_g_law_units, k_g_law_units, b_g_law_units⟩ := D_law_units.ex
  obtain ⟨f_law_all, fd_law_all, g_law_all, m_g_law_all, k_g_law_all, b_g_law_all⟩ := D_law_all.ex
  refine Fn.ok sc_law (sp_len (n := 1) fun _ => rfl) (fun cdv A outer s H vs Q E hr h => ?_)
  refine ⟨_, pss_cons (ps_set (i := 1) sc_law.nd rfl (Or.inl rfl) (pe_lst (pa_cons (pe_call g_law_row (hr.mono (by decide)) rfl m_g_law_row k_g_law_row b_g_law_row .nil pass0 (pa_cons (pv 0) (pa_cons (pe_int) (pa_cons (pe_int) (pa_nil))))) (pa_cons pe_int pa_nil)))) (pss_cons (ps_set (i := 2) sc_law.nd rfl (Or.inl rfl) (pe_call g_law_part (hr.mono (by decide)) rfl m_g_law_part k_g_law_part b_g_law_part .nil pass0 (pa_cons (pv 1) (pa_nil)))) (pss_cons (ps_set (i := 3) sc_law.nd rfl (Or.inl rfl) (pe_make M_Document___init g_Document___init (hr.mono (by decide)) rfl m_Document___init_g b_Document___init .nil pass0 (pa_cons (pv 2) (pa_nil)))) (pss_cons (ps_set (i := 4) sc_law.nd rfl (Or.inl rfl) (pe_meth0 (pv 3) O_Document_text.cl M_Document_text g_Document_text (hr.mono (by decide)) b_Document_text .nil pass0)) (pss_cons (ps_set (i := 5) sc_law.nd rfl (Or.inl rfl) (pv 4)) (pss_cons (ps_for PassesOwn.never rfl (pi_range1 rfl T.b_range (pa_cons (pe_call g_law_draw (hr.mono (by decide)) rfl m_g_law_draw k_g_law_draw b_g_law_draw .nil pass0 (pa_cons (pv 1) (pa_cons (pe_int) (pa_nil)))) (pa_nil))) (pg_name (i := 6) sc_law.nd rfl (Or.inl rfl)) (pss_cons (ps_asg (pe_call g_law_deed (hr.mono (by decide)) rfl m_g_law_deed k_g_law_deed b_g_law_deed .nil pass0 (pa_cons (pv 1) (pa_cons (pv 3) (pa_nil)))) (pg_lst rfl (pgs_cons (pg_name (i := 10) sc_law.nd rfl (Or.inl rfl)) (pgs_cons (pg_name (i := 11) sc_law.nd rfl (Or.inl rfl)) (pgs_cons (pg_name (i := 12) sc_law.nd rfl (Or.inl rfl)) (pgs_nil)))))) (pss_cons (ps_if (PW.pt (pw_or (PW.pt (pw_and (pt_truthK (K := K) rfl (pv 11) (fun _ => rfl)) (pw_and1 (pt_cmpN opNotNon (pv 10) (pe_non))))) (pw_or1 (PW.pt (pw_and (pt_cmpN opNotNon (pv 12) (pe_non)) (pw_and1 (pt_cmpN (r := rNeD K) (op_neD hr.units) (pe_meth0 (pv 3) O_Document_content.cl M_Document_content g_Document_content (hr.mono (by decide)) b_Document_content .nil pass0) (pv 12)))))))) (pss_cons (ps_ret (pe_bl)) pss_nil) (pss_nil)) (pss_cons (ps_set (i := 4) sc_law.nd rfl (Or.inl rfl) (pe_call g_changed (hr.mono (by decide)) rfl m_g_changed k_g_changed b_g_changed .nil pass0 (pa_cons (pv 4) (pa_cons (pv 10) (pa_nil))))) (pss_cons (ps_if (PW.pt (pw_or (pt_cmpN op_ne (pv 4) (pe_meth0 (pv 3) O_Document_text.cl M_Document_text g_Document_text (hr.mono (by decide)) b_Document_text .nil pass0)) (pw_or1 (pt_cmpN op_ne (pv 4) (pe_ix (r := rIxL K) ix_list (pe_call g_law_shown (hr.mono (by decide)) rfl m_g_law_shown k_g_law_shown b_g_law_shown .nil pass0 (pa_cons (pe_call g_law_units (hr.mono (by decide)) rfl m_g_law_units k_g_law_units b_g_law_units .nil pass0 (pa_cons (pe_meth0 (pv 3) O_Document_content.cl M_Document_content g_Document_content (hr.mono (by decide)) b_Document_content .nil pass0) (pa_nil))) (pa_nil))) (pe_int) (fun _ _ => rfl)))))) (pss_cons (ps_ret (pe_bl)) pss_nil) (pss_nil)) (pss_nil)))))) (pss_cons (ps_set (i := 7) sc_law.nd rfl (Or.inl rfl) (pe_call g_law_all (hr.mono (by decide)) rfl m_g_law_all k_g_law_all b_g_law_all .nil pass0 (pa_cons (pv 3) (pa_cons (pv 4) (pa_cons (pe_int) (pa_nil)))))) (pss_cons (ps_set (i := 8) sc_law.nd rfl (Or.inl rfl) (pe_meth0 (pv 3) O_Document_text.cl M_Document_text g_Document_text (hr.mono (by decide)) b_Document_text .nil pass0)) (pss_cons (ps_set (i := 9) sc_law.nd rfl (Or.inl rfl) (pe_call g_law_all (hr.mono (by decide)) rfl m_g_law_all k_g_law_all b_g_law_all .nil pass0 (pa_cons (pv 3) (pa_cons (pv 7) (pa_cons (pe_int) (pa_nil)))))) (pss_cons (ps_if (PW.pt (pw_or (pt_cmpN op_ne (pv 7) (pv 8)) (pw_or (pt_cmpN op_ne (pv 9) (pv 5)) (pw_or1 (pt_cmpN (r := rNeD K) (op_neD hr.units) (pe_meth0 (pv 3) O_Document_content.cl M_Document_content g_Document_content (hr.mono (by decide)) b_Document_content .nil pass0) (pv 2)))))) (pss_cons (ps_ret (pe_bl)) pss_nil) (pss_nil)) (pss_cons (ps_ret (pe_cmpN op_eq (pe_call g_law_all (hr.mono (by decide)) rfl m_g_law_all k_g_law_all b_g_law_all .nil pass0 (pa_cons (pv 3) (pa_cons (pv 9) (pa_cons (pe_int) (pa_nil))))) (pv 8))) pss_nil)))))))))), ?_⟩
  refine @run_body K (Scr × Unit) Bool Unit Unit _ _ f0 (fun x => m_law x.1) (fun x => mb_law x.1) (fun _ _ => [.un, .un, .un, .un, .un, .un, .un, .un, .un, .un, .un, .un, .un]) _ ["_law_script", "_law_box", "_law_first", "_law_document", "_law_text", "_law_begin", "_law_turn", "_law_forth", "_law_last", "_law_back", "_law_told", "_law_quiet", "_law_due"] 0 vs H Q E h (fun _ => rfl) 13 1 (fun _ => rfl) rfl rfl (by decide) (fun x => ?_)
  obtain ⟨v_script, _⟩ := x
  show Ss K _ [Sl.of K v_script, .un, .un, .un, .un, .un, .un, .un, .un, .un, .un, .un, .un] f0 f0 (mb_law v_script) _
  exact ss_newB (i := 1) (es_callP (ea_cons (es_var (i := 0) rfl) (ea_cons (es_int) (ea_cons (es_int) (ea_nil))))) (ss_asg (es_call (ea_own (i := 1) (k := 0) rfl (ea_nil)) (fun _ => rfl) (fun _ _ => rfl) (fun _ => rfl)) tg_name fun v_first_1 => ss_mk (i := 3) (k := 1) O_Document___init (ea_cons (es_var (i := 2) rfl) (ea_nil)) (fun _ => rfl) (fun _ => Nat.le_of_ble_eq_true rfl) (ss_asg (es_meth (m := "text") (i := 3) (k := 1) (get := (fun b : (Bx × St_Document) => b.2)) rfl (fun _ => rfl) O_Document_text (by decide +kernel) (es_call (ea_own (i := 3) (k := 1) rfl (ea_nil)) (fun _ => rfl) (fun _ _ => rfl) (fun _ => rfl))) tg_name fun v_text_2 => ss_asg (es_var (i := 4) rfl) tg_name fun v_begin_3 => ss_then (e1 := (fun g10 : Tx => [Sl.of K v_script, .own 0, Sl.of K v_first_1, .own 1, Sl.of K g10, Sl.of K v_begin_3, .un, .un, .un, .un, .un, .un, .un])) (ss_for (c0 := v_text_2) (ei_range1 (ea_cons (es_call (ea_own (i := 1) (k := 0) rfl (ea_cons (es_int) (ea_nil))) (fun _ => rfl) (fun _ _ => rfl) (fun _ => rfl)) (ea_nil))) ⟨.inr rfl, ⟨.inr rfl, ⟨.inr rfl, ⟨.inr rfl, ⟨.inr rfl, ⟨.inr rfl, ⟨.inl rfl, ⟨.inl rfl, ⟨.inl rfl, ⟨.inl rfl, ⟨.inl rfl, ⟨.inl rfl, ⟨.inl rfl, trivial⟩⟩⟩⟩⟩⟩⟩⟩⟩⟩⟩⟩⟩ (fun _ => tg_name) (fun c4 x5 => ss_asg (es_call (ea_own (i := 1) (k := 0) rfl (ea_own (i := 3) (k := 1) rfl (ea_nil))) (fun _ => rfl) (fun _ _ => rfl) (fun _ => rfl)) tg_l3 fun t6 => ss_then (e1 := (fun g7 : Unit => [Sl.of K v_script, .own 0, Sl.of K v_first_1, .own 1, Sl.of K c4, Sl.of K v_begin_3, Sl.of K x5, .un, .un, .un, Sl.of K t6.a, Sl.of K t6.b, Sl.of K t6.c])) (ss_if (et_or (et_and (et_tru tru_bl (es_var (i := 11) rfl)) (et_test (K := K) (es_op o2_notN (es_var (i := 10) rfl) (es_non)))) (et_and (et_test (K := K) (es_op o2_notN (es_var (i := 12) rfl) (es_non))) (et_test (K := K) (es_op (o2_neD (K := K)) (es_meth (m := "content") (i := 3) (k := 1) (get := (fun b : (Bx × St_Document) => b.2)) rfl (fun _ => rfl) O_Document_content (by decide +kernel) (es_call (ea_own (i := 3) (k := 1) rfl (ea_nil)) (fun _ => rfl) (fun _ _ => rfl) (fun _ => rfl))) (es_var (i := 12) rfl))))) (ss_last (ss_ret (es_bl))) (ss_nx ⟨.inr rfl, ⟨.inr rfl, ⟨.inr rfl, ⟨.inr rfl, ⟨.inr rfl, ⟨.inr rfl, ⟨.inr rfl, ⟨.inl rfl, ⟨.inl rfl, ⟨.inl rfl, ⟨.inr rfl, ⟨.inr rfl, ⟨.inr rfl, trivial⟩⟩⟩⟩⟩⟩⟩⟩⟩⟩⟩⟩⟩)) (fun g7 => ss_asg (es_callP (ea_cons (es_var (i := 4) rfl) (ea_cons (es_var (i := 10) rfl) (ea_nil)))) tg_name fun v_text_8 => ss_then (e1 := (fun g9 : Unit => [Sl.of K v_script, .own 0, Sl.of K v_first_1, .own 1, Sl.of K v_text_8, Sl.of K v_begin_3, Sl.of K x5, .un, .un, .un, Sl.of K t6.a, Sl.of K t6.b, Sl.of K t6.c])) (ss_if (et_or (et_test (K := K) (es_op o2_neS (es_var (i := 4) rfl) (es_meth (m := "text") (i := 3) (k := 1) (get := (fun b : (Bx × St_Document) => b.2)) rfl (fun _ => rfl) O_Document_text (by decide +kernel) (es_call (ea_own (i := 3) (k := 1) rfl (ea_nil)) (fun _ => rfl) (fun _ _ => rfl) (fun _ => rfl))))) (et_test (K := K) (es_op o2_neS (es_var (i := 4) rfl) (es_op o2_lp0 (es_callP (ea_cons (es_callP (ea_cons (es_meth (m := "content") (i := 3) (k := 1) (get := (fun b : (Bx × St_Document) => b.2)) rfl (fun _ => rfl) O_Document_content (by decide +kernel) (es_call (ea_own (i := 3) (k := 1) rfl (ea_nil)) (fun _ => rfl) (fun _ _ => rfl) (fun _ => rfl))) (ea_nil))) (ea_nil))) (es_int))))) (ss_last (ss_ret (es_bl))) (ss_nx ⟨.inr rfl, ⟨.inr rfl, ⟨.inr rfl, ⟨.inr rfl, ⟨.inr rfl, ⟨.inr rfl, ⟨.inr rfl, ⟨.inl rfl, ⟨.inl rfl, ⟨.inl rfl, ⟨.inr rfl, ⟨.inr rfl, ⟨.inr rfl, trivial⟩⟩⟩⟩⟩⟩⟩⟩⟩⟩⟩⟩⟩)) (fun g9 => ss_nx ⟨.inr rfl, ⟨.inr rfl, ⟨.inr rfl, ⟨.inr rfl, ⟨.inr rfl, ⟨.inr rfl, ⟨.inl rfl, ⟨.inl rfl, ⟨.inl rfl, ⟨.inl rfl, ⟨.inl rfl, ⟨.inl rfl, ⟨.inl rfl, trivial⟩⟩⟩⟩⟩⟩⟩⟩⟩⟩⟩⟩⟩) (fun _ => ⟨2, rfl⟩)) (fun _ => ⟨2, rfl⟩))) (fun g10 => ss_asg (es_call (ea_own (i := 3) (k := 1) rfl (ea_cons (es_var (i := 4) rfl) (ea_cons (es_int) (ea_nil)))) (fun _ => rfl) (fun _ _ => rfl) (fun _ => rfl)) tg_name fun v_forth_11 => ss_asg (es_meth (m := "text") (i := 3) (k := 1) (get := (fun b : (Bx × St_Document) => b.2)) rfl (fun _ => rfl) O_Document_text (by decide +kernel) (es_call (ea_own (i := 3) (k := 1) rfl (ea_nil)) (fun _ => rfl) (fun _ _ => rfl) (fun _ => rfl))) tg_name fun v_last_12 => ss_asg (es_call (ea_own (i := 3) (k := 1) rfl (ea_cons (es_castO castO_id (es_var (i := 7) rfl)) (ea_cons (es_int) (ea_nil)))) (fun _ => rfl) (fun _ _ => rfl) (fun _ => rfl)) tg_name fun v_back_13 => ss_then (e1 := (fun g14 : Unit => [Sl.of K v_script, .own 0, Sl.of K v_first_1, .own 1, Sl.of K g10, Sl.of K v_begin_3, .un, Sl.of K v_forth_11, Sl.of K v_last_12, Sl.of K v_back_13, .un, .un, .un])) (ss_if (et_or (et_test (K := K) (es_op o2_neS (es_var (i := 7) rfl) (es_var (i := 8) rfl))) (et_or (et_test (K := K) (es_op o2_neS (es_var (i := 9) rfl) (es_var (i := 5) rfl))) (et_test (K := K) (es_op (o2_neD (K := K)) (es_meth (m := "content") (i := 3) (k := 1) (get := (fun b : (Bx × St_Document) => b.2)) rfl (fun _ => rfl) O_Document_content (by decide +kernel) (es_call (ea_own (i := 3) (k := 1) rfl (ea_nil)) (fun _ => rfl) (fun _ _ => rfl) (fun _ => rfl))) (es_var (i := 2) rfl))))) (ss_last (ss_ret (es_bl))) (ss_nx ⟨.inr rfl, ⟨.inr rfl, ⟨.inr rfl, ⟨.inr rfl, ⟨.inr rfl, ⟨.inr rfl, ⟨.inl rfl, ⟨.inr rfl, ⟨.inr rfl, ⟨.inr rfl, ⟨.inl rfl, ⟨.inl rfl, ⟨.inl rfl, trivial⟩⟩⟩⟩⟩⟩⟩⟩⟩⟩⟩⟩⟩)) (fun g14 => ss_last (ss_retD (es_op o2_eqS (es_call (ea_own (i := 3) (k := 1) rfl (ea_cons (es_castO castO_id (es_var (i := 9) rfl)) (ea_cons (es_int) (ea_nil)))) (fun _ => rfl) (fun _ _ => rfl) (fun _ => rfl)) (es_var (i := 8) rfl)) (fun _ => ⟨0, rfl⟩))) (fun _ => ⟨0, rfl⟩)) (fun _ => ⟨0, rfl⟩)))
end
end My

namespace My
open PySem L2 Tw
theorem all_mk {w : World} {K : PySem.W.Frag} {h : Heap} {mg : Str → Option Value} {fa f : Addr} (X : K.In h) (G : h.Ns mainGlobals mg) (hfa : mg "law" = some (.ref fa)) (T : Txt K mg) (R_common : Raw K mg "_common" ["one", "two"] s_common) (R_change : Raw K mg "change" ["one", "two"] s_change) (R_changed : Raw K mg "changed" ["one", "told"] s_changed) (D_GapsError___init : GeD PySem.Challenge.pw_gapsalike_k83_whole_histories K mg) (R_units : Raw K mg "units" ["fragment"] s_units) (R_tidy : Raw K mg "tidy" ["told"] s_tidy) (R_kind : Raw K mg "kind" ["mode", "sign"] s_kind) (R_kinds : Raw K mg "kinds" ["told"] s_kinds) (R_is_solid : Raw K mg "is_solid" ["one"] s_is_solid) (R_Gap___init : RawGap K mg s_Gap___init) (R_gaps_of : Raw K mg "gaps_of" ["told", "border"] s_gaps_of) (R_join : Raw K mg "join" ["left", "right"] s_join) (R_white_of : Raw K mg "white_of" ["told", "gap"] s_white_of) (R_counting : Raw K mg "counting" ["told", "border"] s_counting) (R_sign_shown : Raw K mg "sign_shown" ["one", "sign"] s_sign_shown) (R_shown_units : Raw K mg "shown_units" ["content"] s_shown_units) (R_needed : Raw K mg "needed" ["told"] s_needed) (R_shortened : Raw K mg "shortened" ["fragment"] s_shortened) (R_with_feed_last : Raw K mg "_with_feed_last" ["signs"] s_with_feed_last) (R_with_feed_first : Raw K mg "_with_feed_first" ["signs"] s_with_feed_first) (R_form_of : Raw K mg "form_of" ["told"] s_form_of) (R_normal_form : Raw K mg "normal_form" ["fragment"] s_normal_form) (R_units_for : Raw K mg "_units_for" ["form"] s_units_for) (R_stands_for : Raw K mg "stands_for" ["form"] s_stands_for) (R_Document___init : RawI K mg "Document" fs_Document "Document.__init__" ["self", "fragment"] s_Document___init) (R_Document_text : RawM K "Document" fs_Document "text" "Document.text" ["self"] s_Document_text) (R_Document_length : RawM K "Document" fs_Document "length" "Document.length" ["self"] s_Document_length) (R_Document_content : RawM K "Document" fs_Document "content" "Document.content" ["self"] s_Document_content) (R_Document__turn : RawM K "Document" fs_Document "_turn" "Document._turn" ["self", "fresh"] s_Document__turn) (R_Document__keep : RawM K "Document" fs_Document "_keep" "Document._keep" ["self"] s_Document__keep) (R_Document__require : RawM K "Document" fs_Document "_require" "Document._require" ["self", "start", "end"] s_Document__require) (R_Document__edit : RawM K "Document" fs_Document "_edit" "Document._edit" ["self", "start", "end", "more"] s_Document__edit) (R_Document_replace : RawM K "Document" fs_Document "replace" "Document.replace" ["self", "start", "end", "fragment"] s_Document_replace) (R_Document_compact : RawM K "Document" fs_Document "compact" "Document.compact" ["self", "start", "end"] s_Document_compact) (R_Document_undo : RawM K "Document" fs_Document "undo" "Document.undo" ["self"] s_Document_undo) (R_Document_redo : RawM K "Document" fs_Document "redo" "Document.redo" ["self"] s_Document_redo) (R_Document_source : RawM K "Document" fs_Document "source" "Document.source" ["self", "start", "end"] s_Document_source) (R_law_cell : Raw K mg "_law_cell" ["_law_script", "_law_k"] s_law_cell) (R_law_row : Raw K mg "_law_row" ["_law_script", "_law_first", "_law_last"] s_law_row) (R_law_draw : Raw K mg "_law_draw" ["_law_box", "_law_many"] s_law_draw) (R_law_fragment : Raw K mg "_law_fragment" ["_law_box", "_law_most"] s_law_fragment) (R_law_units : Raw K mg "_law_units" ["_law_fragment_here"] s_law_units) (R_law_tidy : Raw K mg "_law_tidy" ["_law_units_here"] s_law_tidy) (R_law_kind : Raw K mg "_law_kind" ["_law_unit"] s_law_kind) (R_law_gaps : Raw K mg "_law_gaps" ["_law_units_here"] s_law_gaps) (R_law_join : Raw K mg "_law_join" ["_law_one", "_law_two"] s_law_join) (R_law_kept : Raw K mg "_law_kept" ["_law_units_here", "_law_gap"] s_law_kept) (R_law_sign : Raw K mg "_law_sign" ["_law_unit"] s_law_sign) (R_law_shown : Raw K mg "_law_shown" ["_law_units_here"] s_law_shown) (R_law_part : Raw K mg "_law_part" ["_law_box"] s_law_part) (R_law_short_part : Raw K mg "_law_short_part" ["_law_box"] s_law_short_part) (R_law_deed : Raw K mg "_law_deed" ["_law_box", "_law_document"] s_law_deed) (R_law_all : Raw K mg "_law_all" ["_law_document", "_law_text", "_law_which"] s_law_all)
    {oc : Value} {od an : Option Addr} {osl : Array (Option Value)} {kV doc pm cdv ct : Value} (a : PySem.W.nsIn K mainGlobals "law" = some (some (.ref f))) (l : K.lookup f = some ⟨oc, od, .func (PySem.W.fnOf "law" "law" (defArgs s_law) (defBody s_law) (defScope s_law) .none kV doc pm an cdv ct), osl⟩) (c : PySem.W.codeIn K cdv "law" = true) (k : PySem.W.keepIn K (.ref f) = true) :
    ∃ fd : FuncData, (∀ (s : Shared) (v : Value), BindsTo s fd ⟨[v], []⟩ [("_law_script", v)]) ∧ ∀ base : Heap, K.In base → base.Ns mainGlobals mg → FnOk PySem.Challenge.pw_gapsalike_k83_whole_histories w K mg base CX0 11 fa fd ["_law_script"] (sp K (α := Scr × Unit) f0 (fun x => m_law x.1)) := by
  have e := hfa.symm.trans (PySem.W.mg_of X G a)
  cases e
  refine ⟨PySem.W.fnOf "law" "law" (defArgs s_law) (defBody s_law) (defScope s_law) .none kV doc pm an cdv ct, fun s v => .of_eq rfl, fun base _ _ => ?_⟩
  have D_common := ok_common (P := PySem.Challenge.pw_gapsalike_k83_whole_histories) (w := w) (base := base) R_common T 
  have D_change := ok_change (P := PySem.Challenge.pw_gapsalike_k83_whole_histories) (w := w) (base := base) R_change T D_common
  have D_changed := ok_changed (P := PySem.Challenge.pw_gapsalike_k83_whole_histories) (w := w) (base := base) R_changed T 
  have D_units := ok_units (P := PySem.Challenge.pw_gapsalike_k83_whole_histories) (w := w) (base := base) R_units T 
  have D_tidy := ok_tidy (P := PySem.Challenge.pw_gapsalike_k83_whole_histories) (w := w) (base := base) R_tidy T 
  have D_kind := ok_kind (P := PySem.Challenge.pw_gapsalike_k83_whole_histories) (w := w) (base := base) R_kind T 
  have D_kinds := ok_kinds (P := PySem.Challenge.pw_gapsalike_k83_whole_histories) (w := w) (base := base) R_kinds T D_kind
  have D_is_solid := ok_is_solid (P := PySem.Challenge.pw_gapsalike_k83_whole_histories) (w := w) (base := base) R_is_solid T 
  have D_Gap___init := ok_Gap___init (P := PySem.Challenge.pw_gapsalike_k83_whole_histories) (w := w) (base := base) R_Gap___init
  have D_gaps_of := ok_gaps_of (P := PySem.Challenge.pw_gapsalike_k83_whole_histories) (w := w) (base := base) R_gaps_of T D_is_solid D_Gap___init
  have D_join := ok_join (P := PySem.Challenge.pw_gapsalike_k83_whole_histories) (w := w) (base := base) R_join T 
  have D_white_of := ok_white_of (P := PySem.Challenge.pw_gapsalike_k83_whole_histories) (w := w) (base := base) R_white_of T D_join
  have D_counting := ok_counting (P := PySem.Challenge.pw_gapsalike_k83_whole_histories) (w := w) (base := base) R_counting T D_gaps_of D_white_of
  have D_sign_shown := ok_sign_shown (P := PySem.Challenge.pw_gapsalike_k83_whole_histories) (w := w) (base := base) R_sign_shown T 
  have D_shown_units := ok_shown_units (P := PySem.Challenge.pw_gapsalike_k83_whole_histories) (w := w) (base := base) R_shown_units T D_kinds D_counting D_sign_shown
  have D_needed := ok_needed (P := PySem.Challenge.pw_gapsalike_k83_whole_histories) (w := w) (base := base) R_needed T D_counting D_kinds
  have D_shortened := ok_shortened (P := PySem.Challenge.pw_gapsalike_k83_whole_histories) (w := w) (base := base) R_shortened T D_tidy D_needed D_units
  have D_with_feed_last := ok_with_feed_last (P := PySem.Challenge.pw_gapsalike_k83_whole_histories) (w := w) (base := base) R_with_feed_last T 
  have D_with_feed_first := ok_with_feed_first (P := PySem.Challenge.pw_gapsalike_k83_whole_histories) (w := w) (base := base) R_with_feed_first T 
  have D_form_of := ok_form_of (P := PySem.Challenge.pw_gapsalike_k83_whole_histories) (w := w) (base := base) R_form_of T D_needed D_kinds D_is_solid D_sign_shown D_with_feed_last D_with_feed_first
  have D_normal_form := ok_normal_form (P := PySem.Challenge.pw_gapsalike_k83_whole_histories) (w := w) (base := base) R_normal_form T D_form_of D_units
  have D_units_for := ok_units_for (P := PySem.Challenge.pw_gapsalike_k83_whole_histories) (w := w) (base := base) R_units_for T D_units
  have D_stands_for := ok_stands_for (P := PySem.Challenge.pw_gapsalike_k83_whole_histories) (w := w) (base := base) R_stands_for T D_tidy D_units_for
  have D_Document___init := ok_Document___init (P := PySem.Challenge.pw_gapsalike_k83_whole_histories) (w := w) (base := base) R_Document___init T D_units
  have D_Document_text := ok_Document_text (P := PySem.Challenge.pw_gapsalike_k83_whole_histories) (w := w) (base := base) R_Document_text T D_shown_units
  have D_Document_length := ok_Document_length (P := PySem.Challenge.pw_gapsalike_k83_whole_histories) (w := w) (base := base) R_Document_length T 
  have D_Document_content := ok_Document_content (P := PySem.Challenge.pw_gapsalike_k83_whole_histories) (w := w) (base := base) R_Document_content T D_tidy
  have D_Document__turn := ok_Document__turn (P := PySem.Challenge.pw_gapsalike_k83_whole_histories) (w := w) (base := base) R_Document__turn T D_Document_text D_change
  have D_Document__keep := ok_Document__keep (P := PySem.Challenge.pw_gapsalike_k83_whole_histories) (w := w) (base := base) R_Document__keep T 
  have D_Document__require := ok_Document__require (P := PySem.Challenge.pw_gapsalike_k83_whole_histories) (w := w) (base := base) R_Document__require T D_GapsError___init
  have D_Document__edit := ok_Document__edit (P := PySem.Challenge.pw_gapsalike_k83_whole_histories) (w := w) (base := base) R_Document__edit T D_GapsError___init D_Document__keep D_Document__turn
  have D_Document_replace := ok_Document_replace (P := PySem.Challenge.pw_gapsalike_k83_whole_histories) (w := w) (base := base) R_Document_replace T D_Document__require D_Document__edit D_units
  have D_Document_compact := ok_Document_compact (P := PySem.Challenge.pw_gapsalike_k83_whole_histories) (w := w) (base := base) R_Document_compact T D_Document__require D_Document__edit D_needed
  have D_Document_undo := ok_Document_undo (P := PySem.Challenge.pw_gapsalike_k83_whole_histories) (w := w) (base := base) R_Document_undo T D_GapsError___init D_Document__turn
  have D_Document_redo := ok_Document_redo (P := PySem.Challenge.pw_gapsalike_k83_whole_histories) (w := w) (base := base) R_Document_redo T D_GapsError___init D_Document__keep D_Document__turn
  have D_Document_source := ok_Document_source (P := PySem.Challenge.pw_gapsalike_k83_whole_histories) (w := w) (base := base) R_Document_source T D_Document__require D_tidy
  have D_law_cell := ok_law_cell (P := PySem.Challenge.pw_gapsalike_k83_whole_histories) (w := w) (base := base) R_law_cell T 
  have D_law_row := ok_law_row (P := PySem.Challenge.pw_gapsalike_k83_whole_histories) (w := w) (base := base) R_law_row T D_law_cell
  have D_law_draw := ok_law_draw (P := PySem.Challenge.pw_gapsalike_k83_whole_histories) (w := w) (base := base) R_law_draw T 
  have D_law_fragment := ok_law_fragment (P := PySem.Challenge.pw_gapsalike_k83_whole_histories) (w := w) (base := base) R_law_fragment T D_law_draw
  have D_law_units := ok_law_units (P := PySem.Challenge.pw_gapsalike_k83_whole_histories) (w := w) (base := base) R_law_units T 
  have D_law_tidy := ok_law_tidy (P := PySem.Challenge.pw_gapsalike_k83_whole_histories) (w := w) (base := base) R_law_tidy T 
  have D_law_kind := ok_law_kind (P := PySem.Challenge.pw_gapsalike_k83_whole_histories) (w := w) (base := base) R_law_kind T 
  have D_law_gaps := ok_law_gaps (P := PySem.Challenge.pw_gapsalike_k83_whole_histories) (w := w) (base := base) R_law_gaps T D_law_kind
  have D_law_join := ok_law_join (P := PySem.Challenge.pw_gapsalike_k83_whole_histories) (w := w) (base := base) R_law_join T 
  have D_law_kept := ok_law_kept (P := PySem.Challenge.pw_gapsalike_k83_whole_histories) (w := w) (base := base) R_law_kept T D_law_kind D_law_join
  have D_law_sign := ok_law_sign (P := PySem.Challenge.pw_gapsalike_k83_whole_histories) (w := w) (base := base) R_law_sign T D_law_kind
  have D_law_shown := ok_law_shown (P := PySem.Challenge.pw_gapsalike_k83_whole_histories) (w := w) (base := base) R_law_shown T D_law_gaps D_law_kept D_law_kind D_law_sign
  have D_law_part := ok_law_part (P := PySem.Challenge.pw_gapsalike_k83_whole_histories) (w := w) (base := base) R_law_part T D_law_tidy D_law_units D_law_fragment
  have D_law_short_part := ok_law_short_part (P := PySem.Challenge.pw_gapsalike_k83_whole_histories) (w := w) (base := base) R_law_short_part T D_law_draw
  have D_law_deed := ok_law_deed (P := PySem.Challenge.pw_gapsalike_k83_whole_histories) (w := w) (base := base) R_law_deed T D_law_draw D_Document_length D_law_units D_Document_content D_law_short_part D_law_tidy D_Document_replace D_Document_source D_shortened D_stands_for D_normal_form D_Document_compact D_GapsError___init D_Document_undo D_Document_redo
  have D_law_all := ok_law_all (P := PySem.Challenge.pw_gapsalike_k83_whole_histories) (w := w) (base := base) R_law_all T D_GapsError___init D_changed D_Document_undo D_Document_redo
  exact ok_law (fun_mk (st := s_law) l c k) T D_law_row D_law_part D_Document___init D_Document_text D_law_draw D_law_deed D_Document_content D_changed D_law_shown D_law_units D_law_all
theorem walk (hlaw : ∀ ns : List Int, ns.length ≤ 63 → m_law ⟨ns⟩ () = some (true, ())) {l : PySem.W.OpenLaw} {q : Program} {loose : List Str} {XP : (Str → Option Value) → Heap → Prop} {YP : World → Heap → Prop} {d : DefRec} {K : Params → PySem.W.Frag} (hl : l.prog = PySem.Challenge.pw_gapsalike_k83_whole_histories) (hn : l.most = some 63) (hdf : d.params.defaults = [])
    (hY : ∀ (w : World) (h : Heap), YP w h → (K w.params).In h)
    (F : ∀ (w : World) (mg : Str → Option Value) (fa : Addr) (h : Heap), (K w.params).In h → h.Ns mainGlobals mg → mg d.name = some (.ref fa) →
      ∃ fd : FuncData, (∀ (s : Shared) (u : Value), BindsTo s fd ⟨[u], []⟩ [("_law_script", u)]) ∧ ∀ base : Heap, (K w.params).In base → base.Ns mainGlobals mg → FnOk l.prog w (K w.params) mg base CX0 11 fa fd ["_law_script"] (sp (K w.params) (α := Scr × Unit) f0 (fun x => m_law x.1))) :
    PySem.W.WalkO q loose XP YP l.row.toRowW d [] (fun f vs => PySem.call f vs) :=
  L2.walk_of (n := 63) (k := 11) (x := "_law_script") (CX := fun _ => CX0) (sp := fun w => sp (K w.params) (α := Scr × Unit) f0 (fun x => m_law x.1)) hn (by decide) hdf ⟨rfl, by decide, by decide⟩ hY F (fun _ _ a ns hl _ hS => sp_law hS (hlaw ns hl)) fun _ _ _ _ _ z => z
end My
open PySem PySem.W PyProof.Rows
set_option maxRecDepth 100000 in
set_option maxHeartbeats 0 in
theorem PySem.Challenge.cw_gapsalike_k83_whole_histories_holds : PySem.Challenge.rw_gapsalike_k83_whole_histories.Holds := by
  w_on; o_law; k_head; (case hw => w_witness2)
  k_fill
  refine My.walk My.law_true (l := PySem.Challenge.rw_gapsalike_k83_whole_histories) rfl rfl rfl (fun w h Y => PySem.W.kIn_of Y) ?F
  case F =>
    intro w mg fa h KX G hmg
    refine' My.all_mk KX G hmg ⟨PySem.W.mg_none_of KX G ?z_abs, PySem.W.mg_none_of KX G ?z_enumerate, PySem.W.mg_none_of KX G ?z_int, PySem.W.mg_none_of KX G ?z_len, PySem.W.mg_none_of KX G ?z_min, PySem.W.mg_none_of KX G ?z_range, Tw.cst_mk KX G ?zc_MOST_EARLIER (Tw.itc_int ?qMOST_EARLIERr), Tw.cst_mk KX G ?zc_MOST_UNITS (Tw.itc_int ?qMOST_UNITSr), Tw.glob_mk KX G ?zc_WIDE ?zr_WIDE⟩ (Tw.raw_mk KX G (fun _ _ _ _ _ _ us hl => match us, hl with | [_, _], _ => rfl) ?a_common ?l_common ?c_common ?k_common) (Tw.raw_mk KX G (fun _ _ _ _ _ _ us hl => match us, hl with | [_, _], _ => rfl) ?a_change ?l_change ?c_change ?k_change) (Tw.raw_mk KX G (fun _ _ _ _ _ _ us hl => match us, hl with | [_, _], _ => rfl) ?a_changed ?l_changed ?c_changed ?k_changed) (Tw.geD_mk (st := My.s_GapsError___init) KX G rfl rfl rfl ⟨_, fun _ => rfl⟩ (by decide +kernel) ?ge_aC ?ge_xL ?ge_sa ?ge_ga ?ge_gg ?ge_nb ?ge_a1 ?ge_t1 ?ge_kC ?ge_eC ?ge_vC ?ge_tC ?ge_hC ?ge_iC ?ge_sC ?ge_sp ?ge_oq ?ge_mC ?ge_l1 ?ge_c1 ?ge_lc ?ge_lk ?ge_hv ?ge_hf) (Tw.raw_mk KX G (fun _ _ _ _ _ _ us hl => match us, hl with | [_], _ => rfl) ?a_units ?l_units ?c_units ?k_units) (Tw.raw_mk KX G (fun _ _ _ _ _ _ us hl => match us, hl with | [_], _ => rfl) ?a_tidy ?l_tidy ?c_tidy ?k_tidy) (Tw.raw_mk KX G (fun _ _ _ _ _ _ us hl => match us, hl with | [_, _], _ => rfl) ?a_kind ?l_kind ?c_kind ?k_kind) (Tw.raw_mk KX G (fun _ _ _ _ _ _ us hl => match us, hl with | [_], _ => rfl) ?a_kinds ?l_kinds ?c_kinds ?k_kinds) (Tw.raw_mk KX G (fun _ _ _ _ _ _ us hl => match us, hl with | [_], _ => rfl) ?a_is_solid ?l_is_solid ?c_is_solid ?k_is_solid) (Tw.rawGap_mk KX G (fun _ _ _ _ _ _ us hl => match us, hl with | [_, _, _, _], _ => rfl) ?gap_aC ?gap_a1 ?gap_i1 ?gap_l1 ?gap_c1 ?gap_pg ?gap_hd ?gap_po ?gap_sa ?gap_mk ?gap_kc ?gap_k1 ?gap_nl ?gap_nr ?gap_nn) (Tw.raw_mk KX G (fun _ _ _ _ _ _ us hl => match us, hl with | [_, _], _ => rfl) ?a_gaps_of ?l_gaps_of ?c_gaps_of ?k_gaps_of) (Tw.raw_mk KX G (fun _ _ _ _ _ _ us hl => match us, hl with | [_, _], _ => rfl) ?a_join ?l_join ?c_join ?k_join) (Tw.raw_mk KX G (fun _ _ _ _ _ _ us hl => match us, hl with | [_, _], _ => rfl) ?a_white_of ?l_white_of ?c_white_of ?k_white_of) (Tw.raw_mk KX G (fun _ _ _ _ _ _ us hl => match us, hl with | [_, _], _ => rfl) ?a_counting ?l_counting ?c_counting ?k_counting) (Tw.raw_mk KX G (fun _ _ _ _ _ _ us hl => match us, hl with | [_, _], _ => rfl) ?a_sign_shown ?l_sign_shown ?c_sign_shown ?k_sign_shown) (Tw.raw_mk KX G (fun _ _ _ _ _ _ us hl => match us, hl with | [_], _ => rfl) ?a_shown_units ?l_shown_units ?c_shown_units ?k_shown_units) (Tw.raw_mk KX G (fun _ _ _ _ _ _ us hl => match us, hl with | [_], _ => rfl) ?a_needed ?l_needed ?c_needed ?k_needed) (Tw.raw_mk KX G (fun _ _ _ _ _ _ us hl => match us, hl with | [_], _ => rfl) ?a_shortened ?l_shortened ?c_shortened ?k_shortened) (Tw.raw_mk KX G (fun _ _ _ _ _ _ us hl => match us, hl with | [_], _ => rfl) ?a_with_feed_last ?l_with_feed_last ?c_with_feed_last ?k_with_feed_last) (Tw.raw_mk KX G (fun _ _ _ _ _ _ us hl => match us, hl with | [_], _ => rfl) ?a_with_feed_first ?l_with_feed_first ?c_with_feed_first ?k_with_feed_first) (Tw.raw_mk KX G (fun _ _ _ _ _ _ us hl => match us, hl with | [_], _ => rfl) ?a_form_of ?l_form_of ?c_form_of ?k_form_of) (Tw.raw_mk KX G (fun _ _ _ _ _ _ us hl => match us, hl with | [_], _ => rfl) ?a_normal_form ?l_normal_form ?c_normal_form ?k_normal_form) (Tw.raw_mk KX G (fun _ _ _ _ _ _ us hl => match us, hl with | [_], _ => rfl) ?a_units_for ?l_units_for ?c_units_for ?k_units_for) (Tw.raw_mk KX G (fun _ _ _ _ _ _ us hl => match us, hl with | [_], _ => rfl) ?a_stands_for ?l_stands_for ?c_stands_for ?k_stands_for) (Tw.rawI_mk KX G (Tw.obC_mk ?oa_Document ?opg_Document ?ohd_Document ?opo_Document ?osa_Document (Tw.no3 ?on1_Document ?on2_Document ?on3_Document)) (fun _ _ _ _ _ _ us hl => match us, hl with | [_, _], _ => rfl) ?a_Document___init ?i_Document___init ?l_Document___init ?c_Document___init ?k_Document___init ?mk_Document___init ?kc_Document___init) (Tw.rawM_mk (Tw.obC_mk ?oa_Document ?opg_Document ?ohd_Document ?opo_Document ?osa_Document (Tw.no3 ?on1_Document ?on2_Document ?on3_Document)) (fun _ _ _ _ _ _ us hl => match us, hl with | [_], _ => rfl) ?a_Document_text ?i_Document_text ?l_Document_text ?c_Document_text ?k_Document_text) (Tw.rawM_mk (Tw.obC_mk ?oa_Document ?opg_Document ?ohd_Document ?opo_Document ?osa_Document (Tw.no3 ?on1_Document ?on2_Document ?on3_Document)) (fun _ _ _ _ _ _ us hl => match us, hl with | [_], _ => rfl) ?a_Document_length ?i_Document_length ?l_Document_length ?c_Document_length ?k_Document_length) (Tw.rawM_mk (Tw.obC_mk ?oa_Document ?opg_Document ?ohd_Document ?opo_Document ?osa_Document (Tw.no3 ?on1_Document ?on2_Document ?on3_Document)) (fun _ _ _ _ _ _ us hl => match us, hl with | [_], _ => rfl) ?a_Document_content ?i_Document_content ?l_Document_content ?c_Document_content ?k_Document_content) (Tw.rawM_mk (Tw.obC_mk ?oa_Document ?opg_Document ?ohd_Document ?opo_Document ?osa_Document (Tw.no3 ?on1_Document ?on2_Document ?on3_Document)) (fun _ _ _ _ _ _ us hl => match us, hl with | [_, _], _ => rfl) ?a_Document__turn ?i_Document__turn ?l_Document__turn ?c_Document__turn ?k_Document__turn) (Tw.rawM_mk (Tw.obC_mk ?oa_Document ?opg_Document ?ohd_Document ?opo_Document ?osa_Document (Tw.no3 ?on1_Document ?on2_Document ?on3_Document)) (fun _ _ _ _ _ _ us hl => match us, hl with | [_], _ => rfl) ?a_Document__keep ?i_Document__keep ?l_Document__keep ?c_Document__keep ?k_Document__keep) (Tw.rawM_mk (Tw.obC_mk ?oa_Document ?opg_Document ?ohd_Document ?opo_Document ?osa_Document (Tw.no3 ?on1_Document ?on2_Document ?on3_Document)) (fun _ _ _ _ _ _ us hl => match us, hl with | [_, _, _], _ => rfl) ?a_Document__require ?i_Document__require ?l_Document__require ?c_Document__require ?k_Document__require) (Tw.rawM_mk (Tw.obC_mk ?oa_Document ?opg_Document ?ohd_Document ?opo_Document ?osa_Document (Tw.no3 ?on1_Document ?on2_Document ?on3_Document)) (fun _ _ _ _ _ _ us hl => match us, hl with | [_, _, _, _], _ => rfl) ?a_Document__edit ?i_Document__edit ?l_Document__edit ?c_Document__edit ?k_Document__edit) (Tw.rawM_mk (Tw.obC_mk ?oa_Document ?opg_Document ?ohd_Document ?opo_Document ?osa_Document (Tw.no3 ?on1_Document ?on2_Document ?on3_Document)) (fun _ _ _ _ _ _ us hl => match us, hl with | [_, _, _, _], _ => rfl) ?a_Document_replace ?i_Document_replace ?l_Document_replace ?c_Document_replace ?k_Document_replace) (Tw.rawM_mk (Tw.obC_mk ?oa_Document ?opg_Document ?ohd_Document ?opo_Document ?osa_Document (Tw.no3 ?on1_Document ?on2_Document ?on3_Document)) (fun _ _ _ _ _ _ us hl => match us, hl with | [_, _, _], _ => rfl) ?a_Document_compact ?i_Document_compact ?l_Document_compact ?c_Document_compact ?k_Document_compact) (Tw.rawM_mk (Tw.obC_mk ?oa_Document ?opg_Document ?ohd_Document ?opo_Document ?osa_Document (Tw.no3 ?on1_Document ?on2_Document ?on3_Document)) (fun _ _ _ _ _ _ us hl => match us, hl with | [_], _ => rfl) ?a_Document_undo ?i_Document_undo ?l_Document_undo ?c_Document_undo ?k_Document_undo) (Tw.rawM_mk (Tw.obC_mk ?oa_Document ?opg_Document ?ohd_Document ?opo_Document ?osa_Document (Tw.no3 ?on1_Document ?on2_Document ?on3_Document)) (fun _ _ _ _ _ _ us hl => match us, hl with | [_], _ => rfl) ?a_Document_redo ?i_Document_redo ?l_Document_redo ?c_Document_redo ?k_Document_redo) (Tw.rawM_mk (Tw.obC_mk ?oa_Document ?opg_Document ?ohd_Document ?opo_Document ?osa_Document (Tw.no3 ?on1_Document ?on2_Document ?on3_Document)) (fun _ _ _ _ _ _ us hl => match us, hl with | [_, _, _], _ => rfl) ?a_Document_source ?i_Document_source ?l_Document_source ?c_Document_source ?k_Document_source) (Tw.raw_mk KX G (fun _ _ _ _ _ _ us hl => match us, hl with | [_, _], _ => rfl) ?a_law_cell ?l_law_cell ?c_law_cell ?k_law_cell) (Tw.raw_mk KX G (fun _ _ _ _ _ _ us hl => match us, hl with | [_, _, _], _ => rfl) ?a_law_row ?l_law_row ?c_law_row ?k_law_row) (Tw.raw_mk KX G (fun _ _ _ _ _ _ us hl => match us, hl with | [_, _], _ => rfl) ?a_law_draw ?l_law_draw ?c_law_draw ?k_law_draw) (Tw.raw_mk KX G (fun _ _ _ _ _ _ us hl => match us, hl with | [_, _], _ => rfl) ?a_law_fragment ?l_law_fragment ?c_law_fragment ?k_law_fragment) (Tw.raw_mk KX G (fun _ _ _ _ _ _ us hl => match us, hl with | [_], _ => rfl) ?a_law_units ?l_law_units ?c_law_units ?k_law_units) (Tw.raw_mk KX G (fun _ _ _ _ _ _ us hl => match us, hl with | [_], _ => rfl) ?a_law_tidy ?l_law_tidy ?c_law_tidy ?k_law_tidy) (Tw.raw_mk KX G (fun _ _ _ _ _ _ us hl => match us, hl with | [_], _ => rfl) ?a_law_kind ?l_law_kind ?c_law_kind ?k_law_kind) (Tw.raw_mk KX G (fun _ _ _ _ _ _ us hl => match us, hl with | [_], _ => rfl) ?a_law_gaps ?l_law_gaps ?c_law_gaps ?k_law_gaps) (Tw.raw_mk KX G (fun _ _ _ _ _ _ us hl => match us, hl with | [_, _], _ => rfl) ?a_law_join ?l_law_join ?c_law_join ?k_law_join) (Tw.raw_mk KX G (fun _ _ _ _ _ _ us hl => match us, hl with | [_, _], _ => rfl) ?a_law_kept ?l_law_kept ?c_law_kept ?k_law_kept) (Tw.raw_mk KX G (fun _ _ _ _ _ _ us hl => match us, hl with | [_], _ => rfl) ?a_law_sign ?l_law_sign ?c_law_sign ?k_law_sign) (Tw.raw_mk KX G (fun _ _ _ _ _ _ us hl => match us, hl with | [_], _ => rfl) ?a_law_shown ?l_law_shown ?c_law_shown ?k_law_shown) (Tw.raw_mk KX G (fun _ _ _ _ _ _ us hl => match us, hl with | [_], _ => rfl) ?a_law_part ?l_law_part ?c_law_part ?k_law_part) (Tw.raw_mk KX G (fun _ _ _ _ _ _ us hl => match us, hl with | [_], _ => rfl) ?a_law_short_part ?l_law_short_part ?c_law_short_part ?k_law_short_part) (Tw.raw_mk KX G (fun _ _ _ _ _ _ us hl => match us, hl with | [_, _], _ => rfl) ?a_law_deed ?l_law_deed ?c_law_deed ?k_law_deed) (Tw.raw_mk KX G (fun _ _ _ _ _ _ us hl => match us, hl with | [_, _, _], _ => rfl) ?a_law_all ?l_law_all ?c_law_all ?k_law_all) ?a ?l ?c ?k
    (case a_common => k_is)
    (case l_common => k_is)
    (case c_common => k_is)
    (case k_common => k_is)
    (case a_change => k_is)
    (case l_change => k_is)
    (case c_change => k_is)
    (case k_change => k_is)
    (case a_changed => k_is)
    (case l_changed => k_is)
    (case c_changed => k_is)
    (case k_changed => k_is)
    (case ge_aC => first | k_is | rfl)
    (case ge_xL => first | k_is | rfl)
    (case ge_sa => first | k_is | rfl)
    (case ge_ga => first | k_is | rfl)
    (case ge_gg => first | k_is | rfl)
    (case ge_nb => first | k_is | rfl)
    (case ge_a1 => first | k_is | rfl)
    (case ge_t1 => first | k_is | rfl)
    (case ge_kC => first | k_is | rfl)
    (case ge_eC => first | k_is | rfl)
    (case ge_vC => first | k_is | rfl)
    (case ge_tC => first | k_is | rfl)
    (case ge_hC => first | k_is | rfl)
    (case ge_iC => first | k_is | rfl)
    (case ge_sC => first | k_is | rfl)
    (case ge_sp => first | k_is | rfl)
    (case ge_oq => first | k_is | rfl)
    (case ge_mC => first | k_is | rfl)
    (case ge_l1 => first | k_is | rfl)
    (case ge_c1 => first | k_is | rfl)
    (case ge_lc => first | k_is | rfl)
    (case ge_lk => first | k_is | rfl)
    (case ge_hv => rfl)
    (case ge_hf => first | rfl | decide +kernel)
    (case a_units => k_is)
    (case l_units => k_is)
    (case c_units => k_is)
    (case k_units => k_is)
    (case a_tidy => k_is)
    (case l_tidy => k_is)
    (case c_tidy => k_is)
    (case k_tidy => k_is)
    (case a_kind => k_is)
    (case l_kind => k_is)
    (case c_kind => k_is)
    (case k_kind => k_is)
    (case a_kinds => k_is)
    (case l_kinds => k_is)
    (case c_kinds => k_is)
    (case k_kinds => k_is)
    (case a_is_solid => k_is)
    (case l_is_solid => k_is)
    (case c_is_solid => k_is)
    (case k_is_solid => k_is)
    (case gap_aC => k_is)
    (case gap_a1 => k_is)
    (case gap_i1 => k_is)
    (case gap_l1 => k_is)
    (case gap_c1 => k_is)
    (case gap_pg => k_is)
    (case gap_hd => k_is)
    (case gap_po => k_is)
    (case gap_sa => k_is)
    (case gap_mk => k_is)
    (case gap_kc => k_is)
    (case gap_k1 => k_is)
    (case gap_nl => k_is)
    (case gap_nr => k_is)
    (case gap_nn => k_is)
    (case a_gaps_of => k_is)
    (case l_gaps_of => k_is)
    (case c_gaps_of => k_is)
    (case k_gaps_of => k_is)
    (case a_join => k_is)
    (case l_join => k_is)
    (case c_join => k_is)
    (case k_join => k_is)
    (case a_white_of => k_is)
    (case l_white_of => k_is)
    (case c_white_of => k_is)
    (case k_white_of => k_is)
    (case a_counting => k_is)
    (case l_counting => k_is)
    (case c_counting => k_is)
    (case k_counting => k_is)
    (case a_sign_shown => k_is)
    (case l_sign_shown => k_is)
    (case c_sign_shown => k_is)
    (case k_sign_shown => k_is)
    (case a_shown_units => k_is)
    (case l_shown_units => k_is)
    (case c_shown_units => k_is)
    (case k_shown_units => k_is)
    (case a_needed => k_is)
    (case l_needed => k_is)
    (case c_needed => k_is)
    (case k_needed => k_is)
    (case a_shortened => k_is)
    (case l_shortened => k_is)
    (case c_shortened => k_is)
    (case k_shortened => k_is)
    (case a_with_feed_last => k_is)
    (case l_with_feed_last => k_is)
    (case c_with_feed_last => k_is)
    (case k_with_feed_last => k_is)
    (case a_with_feed_first => k_is)
    (case l_with_feed_first => k_is)
    (case c_with_feed_first => k_is)
    (case k_with_feed_first => k_is)
    (case a_form_of => k_is)
    (case l_form_of => k_is)
    (case c_form_of => k_is)
    (case k_form_of => k_is)
    (case a_normal_form => k_is)
    (case l_normal_form => k_is)
    (case c_normal_form => k_is)
    (case k_normal_form => k_is)
    (case a_units_for => k_is)
    (case l_units_for => k_is)
    (case c_units_for => k_is)
    (case k_units_for => k_is)
    (case a_stands_for => k_is)
    (case l_stands_for => k_is)
    (case c_stands_for => k_is)
    (case k_stands_for => k_is)
    (case oa_Document => k_is)
    (case opg_Document => k_is)
    (case ohd_Document => k_is)
    (case opo_Document => k_is)
    (case osa_Document => k_is)
    (case on1_Document => k_is)
    (case on2_Document => k_is)
    (case on3_Document => k_is)
    (case a_Document___init => k_is)
    (case i_Document___init => k_is)
    (case l_Document___init => k_is)
    (case c_Document___init => k_is)
    (case k_Document___init => k_is)
    (case mk_Document___init => k_is)
    (case kc_Document___init => k_is)
    (case a_Document_text => k_is)
    (case i_Document_text => k_is)
    (case l_Document_text => k_is)
    (case c_Document_text => k_is)
    (case k_Document_text => k_is)
    (case a_Document_length => k_is)
    (case i_Document_length => k_is)
    (case l_Document_length => k_is)
    (case c_Document_length => k_is)
    (case k_Document_length => k_is)
    (case a_Document_content => k_is)
    (case i_Document_content => k_is)
    (case l_Document_content => k_is)
    (case c_Document_content => k_is)
    (case k_Document_content => k_is)
    (case a_Document__turn => k_is)
    (case i_Document__turn => k_is)
    (case l_Document__turn => k_is)
    (case c_Document__turn => k_is)
    (case k_Document__turn => k_is)
    (case a_Document__keep => k_is)
    (case i_Document__keep => k_is)
    (case l_Document__keep => k_is)
    (case c_Document__keep => k_is)
    (case k_Document__keep => k_is)
    (case a_Document__require => k_is)
    (case i_Document__require => k_is)
    (case l_Document__require => k_is)
    (case c_Document__require => k_is)
    (case k_Document__require => k_is)
    (case a_Document__edit => k_is)
    (case i_Document__edit => k_is)
    (case l_Document__edit => k_is)
    (case c_Document__edit => k_is)
    (case k_Document__edit => k_is)
    (case a_Document_replace => k_is)
    (case i_Document_replace => k_is)
    (case l_Document_replace => k_is)
    (case c_Document_replace => k_is)
    (case k_Document_replace => k_is)
    (case a_Document_compact => k_is)
    (case i_Document_compact => k_is)
    (case l_Document_compact => k_is)
    (case c_Document_compact => k_is)
    (case k_Document_compact => k_is)
    (case a_Document_undo => k_is)
    (case i_Document_undo => k_is)
    (case l_Document_undo => k_is)
    (case c_Document_undo => k_is)
    (case k_Document_undo => k_is)
    (case a_Document_redo => k_is)
    (case i_Document_redo => k_is)
    (case l_Document_redo => k_is)
    (case c_Document_redo => k_is)
    (case k_Document_redo => k_is)
    (case a_Document_source => k_is)
    (case i_Document_source => k_is)
    (case l_Document_source => k_is)
    (case c_Document_source => k_is)
    (case k_Document_source => k_is)
    (case a_law_cell => k_is)
    (case l_law_cell => k_is)
    (case c_law_cell => k_is)
    (case k_law_cell => k_is)
    (case a_law_row => k_is)
    (case l_law_row => k_is)
    (case c_law_row => k_is)
    (case k_law_row => k_is)
    (case a_law_draw => k_is)
    (case l_law_draw => k_is)
    (case c_law_draw => k_is)
    (case k_law_draw => k_is)
    (case a_law_fragment => k_is)
    (case l_law_fragment => k_is)
    (case c_law_fragment => k_is)
    (case k_law_fragment => k_is)
    (case a_law_units => k_is)
    (case l_law_units => k_is)
    (case c_law_units => k_is)
    (case k_law_units => k_is)
    (case a_law_tidy => k_is)
    (case l_law_tidy => k_is)
    (case c_law_tidy => k_is)
    (case k_law_tidy => k_is)
    (case a_law_kind => k_is)
    (case l_law_kind => k_is)
    (case c_law_kind => k_is)
    (case k_law_kind => k_is)
    (case a_law_gaps => k_is)
    (case l_law_gaps => k_is)
    (case c_law_gaps => k_is)
    (case k_law_gaps => k_is)
    (case a_law_join => k_is)
    (case l_law_join => k_is)
    (case c_law_join => k_is)
    (case k_law_join => k_is)
    (case a_law_kept => k_is)
    (case l_law_kept => k_is)
    (case c_law_kept => k_is)
    (case k_law_kept => k_is)
    (case a_law_sign => k_is)
    (case l_law_sign => k_is)
    (case c_law_sign => k_is)
    (case k_law_sign => k_is)
    (case a_law_shown => k_is)
    (case l_law_shown => k_is)
    (case c_law_shown => k_is)
    (case k_law_shown => k_is)
    (case a_law_part => k_is)
    (case l_law_part => k_is)
    (case c_law_part => k_is)
    (case k_law_part => k_is)
    (case a_law_short_part => k_is)
    (case l_law_short_part => k_is)
    (case c_law_short_part => k_is)
    (case k_law_short_part => k_is)
    (case a_law_deed => k_is)
    (case l_law_deed => k_is)
    (case c_law_deed => k_is)
    (case k_law_deed => k_is)
    (case a_law_all => k_is)
    (case l_law_all => k_is)
    (case c_law_all => k_is)
    (case k_law_all => k_is)
    (case z_abs => k_is)
    (case z_enumerate => k_is)
    (case z_int => k_is)
    (case z_len => k_is)
    (case z_min => k_is)
    (case z_range => k_is)
    (case zc_MOST_EARLIER => k_is)
    (case qMOST_EARLIERr => exact ⟨_, rfl⟩)
    (case zc_MOST_UNITS => k_is)
    (case qMOST_UNITSr => exact ⟨_, rfl⟩)
    (case zc_WIDE => k_is)
    (case zr_WIDE => exact ⟨_, rfl⟩)
    (case a => k_is)
    (case l => k_is)
    (case c => k_is)
    (case k => k_is)
#print axioms PySem.Challenge.cw_gapsalike_k83_whole_histories_holds
