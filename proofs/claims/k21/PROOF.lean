import PyProof.Rows.All
import Wide.All
import OpenK.AllK
import Wide.FinOn
import HandS.ForMost
import HandS.ForExc
import HandS.DictComp
import HandS.Style
import HandS.Deep
import PySem.Challenge.RW_gapsalike_k21_changes
set_option Elab.async false
set_option linter.all false
set_option maxRecDepth 100000
set_option maxHeartbeats 4000000
/-! The typed walk: readings related to plain Lean functions. -/
namespace Tw
open PySem L2

abbrev line : Nat := 16777216

/-! ### heaps that grow -/
def Ex (H H' : Hp) : Prop := ∀ a o, H a = some o → H' a = some o
theorem Ex.refl (H : Hp) : Ex H H := fun _ _ h => h
theorem Ex.trans {H H1 H2 : Hp} (a : Ex H H1) (b : Ex H1 H2) : Ex H H2 := fun x o h => b x o (a x o h)
theorem Ex.new {H : Hp} {p : Addr} {o : HO} (h : H p = none) : Ex H (upd H p o) := fun a u e => by
  rw [upd_ne (ne_of_none e h)]
  exact e
theorem Ex.none {H H' : Hp} (e : Ex H H') {p : Addr} (h : H' p = none) : H p = none := by
  cases q : H p with
  | none => rfl
  | some o =>
    rw [e p o q] at h
    cases h
theorem Ex.rd {H H' : Hp} {a : Addr} {u : HO} (e : Ex H H') (h : Rd H a u) : Rd H' a u := by
  rcases h with h | ⟨o, h⟩
  · exact .inl (e a _ h)
  · exact .inr ⟨o, e a _ h⟩
theorem Ex.sqT {K : PySem.W.Frag} {H H' : Hp} {a : Addr} {xs : List V} (e : Ex H H') (h : SqT K H a xs) : SqT K H' a xs := by
  rcases h with h | h
  · exact .inl (e.rd h)
  · exact .inr h
theorem Ex.sqL {K : PySem.W.Frag} {H H' : Hp} {a : Addr} {xs : List V} (e : Ex H H') (h : SqL K H a xs) : SqL K H' a xs := by
  rcases h with h | h
  · exact .inl (e.rd h)
  · exact .inr h

/-! ### how data lies -/
class Rep (K : PySem.W.Frag) (α : Type) where
  rp : Hp → α → V → Prop
  mono : ∀ {F F' : Hp} {x : α} {v : V}, Ex F F' → rp F x v → rp F' x v

/-- a text, by its codes -/
abbrev Tx := List Nat
def tS (x : Tx) : Str := ⟨x.toArray⟩
@[simp] theorem tS_len (x : Tx) : (tS x).length = x.length := by simp [tS, Str.length]
theorem tS_cps (x : Tx) : (tS x).cps.toList = x := by simp [tS]
theorem tS_inj {x y : Tx} (h : tS x = tS y) : x = y := by
  have := congrArg (fun s : Str => s.cps.toList) h
  simpa [tS] using this
theorem tS_app (x y : Tx) : tS x ++ tS y = tS (x ++ y) := by
  show Str.mk (x.toArray ++ y.toArray) = Str.mk (x ++ y).toArray
  simp
theorem tS_of (s : Str) : tS s.cps.toList = s := by
  cases s
  simp [tS]

def RpAll {α : Type} (r : α → V → Prop) : List α → List V → Prop
  | [], [] => True
  | x :: xs, v :: vs => r x v ∧ RpAll r xs vs
  | _, _ => False
theorem RpAll.length {α : Type} {r : α → V → Prop} : ∀ {xs : List α} {vs : List V}, RpAll r xs vs → xs.length = vs.length
  | [], [], _ => rfl
  | _ :: xs, _ :: vs, h => by rw [List.length_cons, List.length_cons, RpAll.length h.2]
  | [], _ :: _, h => h.elim
  | _ :: _, [], h => h.elim
theorem RpAll.imp {α : Type} {r r' : α → V → Prop} (f : ∀ x v, r x v → r' x v) : ∀ {xs : List α} {vs : List V}, RpAll r xs vs → RpAll r' xs vs
  | [], [], _ => trivial
  | _ :: _, _ :: _, h => ⟨f _ _ h.1, RpAll.imp f h.2⟩
  | [], _ :: _, h => h.elim
  | _ :: _, [], h => h.elim
theorem RpAll.app {α : Type} {r : α → V → Prop} : ∀ {xs ys : List α} {vs ws : List V}, RpAll r xs vs → RpAll r ys ws → RpAll r (xs ++ ys) (vs ++ ws)
  | [], _, [], _, _, h => h
  | _ :: _, _, _ :: _, _, h, h' => ⟨h.1, RpAll.app h.2 h'⟩
  | [], _, _ :: _, _, h, _ => h.elim
  | _ :: _, _, [], _, h, _ => h.elim
theorem RpAll.get {α : Type} {r : α → V → Prop} : ∀ {xs : List α} {vs : List V} {i : Nat} {v : V}, RpAll r xs vs → vs[i]? = some v → ∃ x, xs[i]? = some x ∧ r x v
  | [], [], _, _, _, e => by simp at e
  | x :: _, w :: _, 0, v, h, e => by
    have e' : w = v := by simpa using e
    subst e'
    exact ⟨x, rfl, h.1⟩
  | _ :: xs, _ :: vs, i + 1, v, h, e => by
    obtain ⟨x, h1, h2⟩ := RpAll.get (xs := xs) (vs := vs) (i := i) (v := v) h.2 (by simpa using e)
    exact ⟨x, by simpa using h1, h2⟩
  | [], _ :: _, _, _, h, _ => h.elim
  | _ :: _, [], _, _, h, _ => h.elim
theorem RpAll.get' {α : Type} {r : α → V → Prop} {xs : List α} {vs : List V} {i : Nat} {x : α} (h : RpAll r xs vs) (e : xs[i]? = some x) : ∃ v, vs[i]? = some v ∧ r x v := by
  have hi : i < vs.length := by
    rw [← h.length]
    exact (List.getElem?_eq_some_iff.mp e).1
  obtain ⟨y, h1, h2⟩ := h.get (List.getElem?_eq_getElem hi)
  rw [e] at h1
  cases h1
  exact ⟨_, List.getElem?_eq_getElem hi, h2⟩
theorem RpAll.drop {α : Type} {r : α → V → Prop} : ∀ {xs : List α} {vs : List V} (n : Nat), RpAll r xs vs → RpAll r (xs.drop n) (vs.drop n)
  | _, _, 0, h => h
  | [], [], _ + 1, _ => trivial
  | _ :: _, _ :: _, n + 1, h => RpAll.drop n h.2
  | [], _ :: _, _ + 1, h => h.elim
  | _ :: _, [], _ + 1, h => h.elim
theorem RpAll.take {α : Type} {r : α → V → Prop} : ∀ {xs : List α} {vs : List V} (n : Nat), RpAll r xs vs → RpAll r (xs.take n) (vs.take n)
  | _, _, 0, _ => trivial
  | [], [], _ + 1, _ => trivial
  | _ :: _, _ :: _, n + 1, h => ⟨h.1, RpAll.take n h.2⟩
  | [], _ :: _, _ + 1, h => h.elim
  | _ :: _, [], _ + 1, h => h.elim
theorem RpAll.set {α : Type} {r : α → V → Prop} {x : α} {v : V} (hx : r x v) : ∀ {xs : List α} {vs : List V} (n : Nat), RpAll r xs vs → RpAll r (xs.set n x) (vs.set n v)
  | [], [], _, _ => trivial
  | _ :: _, _ :: _, 0, h => ⟨hx, h.2⟩
  | _ :: _, _ :: _, n + 1, h => ⟨h.1, RpAll.set hx n h.2⟩
  | [], _ :: _, _, h => h.elim
  | _ :: _, [], _, h => h.elim
theorem RpAll.rep {α : Type} {r : α → V → Prop} {xs : List α} {vs : List V} (h : RpAll r xs vs) : ∀ n : Nat, RpAll r (List.replicate n xs).flatten (List.replicate n vs).flatten
  | 0 => trivial
  | n + 1 => by
    rw [List.replicate_succ, List.replicate_succ, List.flatten_cons, List.flatten_cons]
    exact h.app (RpAll.rep h n)

section
variable {K : PySem.W.Frag}
instance : Rep K Int := ⟨fun _ x v => v = .int x, fun _ h => h⟩
instance : Rep K Bool := ⟨fun _ x v => v = .bl x, fun _ h => h⟩
instance : Rep K Unit := ⟨fun _ _ v => v = .non, fun _ h => h⟩
instance : Rep K Tx := ⟨fun _ x v => v = .str (tS x), fun _ h => h⟩
instance {α : Type} [Rep K α] : Rep K (Option α) := ⟨fun F x v => match x with | none => v = .non | some y => Rep.rp K F y v, fun {F F' x v} e h => by
  cases x with
  | none => exact h
  | some y => exact Rep.mono e h⟩
instance {α : Type} [Rep K α] : Rep K (List α) := ⟨fun F xs v => ∃ p vs, v = .ref p ∧ F p = some (.lst vs) ∧ RpAll (Rep.rp K F) xs vs, fun e ⟨p, vs, h1, h2, h3⟩ => ⟨p, vs, h1, e _ _ h2, h3.imp fun _ _ => Rep.mono e⟩⟩
instance {α β : Type} [Rep K α] [Rep K β] : Rep K (α × β) := ⟨fun F x v => ∃ p u w, v = .ref p ∧ SqT K F p [u, w] ∧ Rep.rp K F x.1 u ∧ Rep.rp K F x.2 w,
  fun e ⟨p, u, w, h1, h2, h3, h4⟩ => ⟨p, u, w, h1, e.sqT h2, Rep.mono e h3, Rep.mono e h4⟩⟩
instance {α β : Type} [Rep K α] [Rep K β] : Rep K (α ⊕ β) := ⟨fun F x v => match x with | .inl y => Rep.rp K F y v | .inr y => Rep.rp K F y v, fun {F F' x v} e h => by
  cases x with
  | inl y => exact Rep.mono (K := K) (α := α) e h
  | inr y => exact Rep.mono (K := K) (α := β) e h⟩
/-- a triple -/
structure T3 (α β γ : Type) where
  a : α
  b : β
  c : γ
  deriving DecidableEq
instance {α β γ : Type} [Rep K α] [Rep K β] [Rep K γ] : Rep K (T3 α β γ) := ⟨fun F x v => ∃ p u w z, v = .ref p ∧ SqT K F p [u, w, z] ∧ Rep.rp K F x.a u ∧ Rep.rp K F x.b w ∧ Rep.rp K F x.c z,
  fun e ⟨p, u, w, z, h1, h2, h3, h4, h5⟩ => ⟨p, u, w, z, h1, e.sqT h2, Rep.mono e h3, Rep.mono e h4, Rep.mono e h5⟩⟩
end

/-! ### owned things: a place that nobody else knows -/
structure OV where
  own : Hp → Hp → Addr → Prop
  stab : ∀ {F F' H H' : Hp} {a : Addr}, Ex F F' → H' a = H a → own F H a → own F' H' a
def OsOk (as : List Addr) (os : List OV) (F H : Hp) : Prop :=
  as.Nodup ∧ as.length = os.length ∧ ∀ (i : Nat) (a : Addr) (o : OV), as[i]? = some a → os[i]? = some o → F a = none ∧ H a ≠ none ∧ o.own F H a
/-- the heap behind a piece of code: only what stands at as may be another -/
structure Nx (as : List Addr) (F H F' H' : Hp) : Prop where
  ff : Ex F F'
  fh : Ex F' H'
  keep : ∀ a o, a ∉ as → H a = some o → H' a = some o
  old : ∀ a, a ∉ as → H a ≠ none → F' a = F a
  there : ∀ a, H a ≠ none → H' a ≠ none
theorem Nx.refl {as : List Addr} {F H : Hp} (e : Ex F H) : Nx as F H F H := ⟨.refl _, e, fun _ _ _ h => h, fun _ _ _ => rfl, fun _ h => h⟩
theorem Nx.trans {as : List Addr} {F H F1 H1 F2 H2 : Hp} (a : Nx as F H F1 H1) (b : Nx as F1 H1 F2 H2) : Nx as F H F2 H2 :=
  ⟨a.ff.trans b.ff, b.fh, fun x o n h => b.keep x o n (a.keep x o n h), fun x n h => (b.old x n (a.there x h)).trans (a.old x n h), fun x h => b.there x (a.there x h)⟩
theorem Nx.sub {as bs : List Addr} {F H F1 H1 : Hp} (a : Nx as F H F1 H1) (h : ∀ x ∈ as, x ∈ bs) : Nx bs F H F1 H1 :=
  ⟨a.ff, a.fh, fun x o n e => a.keep x o (fun m => n (h x m)) e, fun x n => a.old x fun m => n (h x m), a.there⟩
theorem Nx.nil {as : List Addr} {F H F1 H1 : Hp} (a : Nx [] F H F1 H1) : Nx as F H F1 H1 := a.sub fun _ h => nomatch h
theorem Nx.hh {F H F1 H1 : Hp} (a : Nx [] F H F1 H1) : Ex H H1 := fun x o h => a.keep x o (fun m => nomatch m) h
/-- a new thing that stays as it is -/
theorem Nx.new {F H : Hp} {p : Addr} {o : HO} (e : Ex F H) (h : H p = none) : Nx [] F H (upd F p o) (upd H p o) :=
  ⟨.new (e.none h), fun a u q => by
    by_cases hp : a = p
    · subst hp
      rw [upd_same] at q ⊢
      exact q
    · rw [upd_ne hp] at q ⊢
      exact e a u q, fun a u _ q => by rw [upd_ne (ne_of_none q h)]; exact q, fun a _ q => by rw [upd_ne fun z => q (by rw [z]; exact h)], fun a q => by
    rw [upd_ne fun z => q (by rw [z]; exact h)]
    exact q⟩
/-- a new thing that is not known to the frozen heap -/
theorem Nx.newO {F H : Hp} {p : Addr} {o : HO} (e : Ex F H) (h : H p = none) : Nx [] F H F (upd H p o) :=
  ⟨.refl _, e.trans (.new h), fun a u _ q => by rw [upd_ne (ne_of_none q h)]; exact q, fun a _ q => rfl, fun a q => by
    rw [upd_ne fun z => q (by rw [z]; exact h)]
    exact q⟩
/-- an owned thing is changed -/
theorem Nx.mut {as : List Addr} {F H : Hp} {p : Addr} {o : HO} (e : Ex F H) (hp : p ∈ as) (h : F p = none) : Nx as F H F (upd H p o) :=
  ⟨.refl _, fun a u q => by rw [upd_ne (ne_of_none q h)]; exact e a u q, fun a u n q => by rw [upd_ne fun z => n (by rw [z]; exact hp)]; exact q, fun a _ q => rfl, fun a q => by
    by_cases z : a = p
    · subst z
      rw [upd_same]
      exact fun q => nomatch q
    · rw [upd_ne z]
      exact q⟩
theorem OsOk.nil {F H : Hp} : OsOk [] [] F H := ⟨List.nodup_nil, rfl, fun _ _ _ h => by simp at h⟩
/-- what nobody touched stays -/
theorem OsOk.step {as : List Addr} {os : List OV} {F H F' H' : Hp} (ok : OsOk as os F H) (n : Nx [] F H F' H') : OsOk as os F' H' := by
  refine ⟨ok.1, ok.2.1, fun i a o ha ho => ?_⟩
  obtain ⟨h1, h2, h3⟩ := ok.2.2 i a o ha ho
  refine ⟨(n.old a (fun m => nomatch m) h2).trans h1, n.there a h2, o.stab n.ff ?_ h3⟩
  cases e : H a with
  | none => exact absurd e h2
  | some u => exact n.hh a u e

/-! ### slots -/
inductive Sl where
  | un
  | dat (p : Hp → V → Prop) (mono : ∀ {F F' : Hp} {v : V}, Ex F F' → p F v → p F' v)
  | own (k : Nat)
def Sl.of (K : PySem.W.Frag) {α : Type} [Rep K α] (x : α) : Sl := .dat (fun F v => Rep.rp K F x v) Rep.mono
def SlOk (as : List Addr) (F : Hp) (x : Option (Option V)) : Sl → Prop
  | .un => True
  | .dat p _ => ∃ v, x = some (some v) ∧ p F v
  | .own k => ∃ a, as[k]? = some a ∧ x = some (some (.ref a))
theorem SlOk.mono {as : List Addr} {F F' : Hp} {x : Option (Option V)} {s : Sl} (e : Ex F F') (h : SlOk as F x s) : SlOk as F' x s := by
  cases s with
  | un => exact h
  | dat p m => obtain ⟨v, h1, h2⟩ := h; exact ⟨v, h1, m e h2⟩
  | own k => exact h
def EnvOk (as : List Addr) (env : List Sl) (σ : St) (F : Hp) : Prop := σ.length = env.length ∧ ∀ (i : Nat) (s : Sl), env[i]? = some s → SlOk as F σ[i]? s
theorem EnvOk.mono {as : List Addr} {env : List Sl} {σ : St} {F F' : Hp} (e : Ex F F') (h : EnvOk as env σ F) : EnvOk as env σ F' := ⟨h.1, fun i s q => (h.2 i s q).mono e⟩
structure Stt (as : List Addr) (env : List Sl) (os : List OV) (σ : St) (F H : Hp) : Prop where
  ex : Ex F H
  os : OsOk as os F H
  env : EnvOk as env σ F
theorem Stt.step {as : List Addr} {env : List Sl} {os os' : List OV} {σ : St} {F H F' H' : Hp} (S : Stt as env os σ F H) (n : Nx as F H F' H') (o : OsOk as os' F' H') : Stt as env os' σ F' H' := ⟨n.fh, o, S.env.mono n.ff⟩
theorem Stt.step0 {as : List Addr} {env : List Sl} {os : List OV} {σ : St} {F H F' H' : Hp} (S : Stt as env os σ F H) (n : Nx [] F H F' H') : Stt as env os σ F' H' := ⟨n.fh, S.os.step n, S.env.mono n.ff⟩

/-! ### computations: a state comes in, a state and a value go out, or nothing -/
abbrev M (β β' α : Type) := β → Option (α × β')
def pu {β α : Type} (x : α) : M β β α := fun b => some (x, b)
def bd {β β1 β2 α γ : Type} (m : M β β1 α) (k : α → M β1 β2 γ) : M β β2 γ := fun b => (m b).bind fun r => k r.1 r.2
def ov {β α : Type} (o : Option α) : M β β α := fun b => o.map fun x => (x, b)
theorem bd_some {β β1 β2 α γ : Type} {m : M β β1 α} {k : α → M β1 β2 γ} {b : β} {r : γ × β2} (h : bd m k b = some r) : ∃ x b1, m b = some (x, b1) ∧ k x b1 = some r := by
  unfold bd at h
  cases e : m b with
  | none => rw [e] at h; cases h
  | some q => rw [e] at h; exact ⟨q.1, q.2, rfl, h⟩
theorem ov_some {β α : Type} {o : Option α} {b : β} {x : α} {b' : β} (h : ov o b = some (x, b')) : o = some x ∧ b' = b := by
  unfold ov at h
  cases e : o with
  | none => rw [e] at h; cases h
  | some y => rw [e] at h; cases h; exact ⟨rfl, rfl⟩
theorem pu_some {β α : Type} {x y : α} {b b' : β} (h : pu (β := β) x b = some (y, b')) : x = y ∧ b = b' := by
  cases h
  exact ⟨rfl, rfl⟩
theorem of_rfl {α : Sort _} {a b : α} (h : a = b) : a = b := h
@[simp] theorem bd_pu {β β2 α γ : Type} (x : α) (k : α → M β β2 γ) : bd (pu x) k = k x := of_rfl rfl
@[simp] theorem bd_assoc {β β1 β2 β3 α γ δ : Type} (m : M β β1 α) (k : α → M β1 β2 γ) (l : γ → M β2 β3 δ) : bd (bd m k) l = bd m fun x => bd (k x) l := by
  funext b
  unfold bd
  cases m b <;> rfl
@[simp] theorem ov_get {β α : Type} (x : α) : ov (β := β) (some x) = pu x := of_rfl rfl
@[simp] theorem bd_ite {β β1 β2 α γ : Type} (c : Prop) [Decidable c] (m m' : M β β1 α) (k : α → M β1 β2 γ) : bd (if c then m else m') k = if c then bd m k else bd m' k := by
  by_cases h : c
  · rw [if_pos h, if_pos h]
  · rw [if_neg h, if_neg h]

/-! ### expressions -/
section
variable {K : PySem.W.Frag} {β : Type} {env : List Sl} {f : β → List OV}
def Es (K : PySem.W.Frag) {α : Type} [Rep K α] (te : TE) (env : List Sl) (f : β → List OV) (m : M β β α) : Prop :=
  ∀ (as : List Addr) (σ : St) (F H : Hp) (b : β), Stt as env (f b) σ F H → ∀ (x : α) (b' : β), m b = some (x, b') → ∀ Q : VK, (∀ v F' H', Nx as F H F' H' → OsOk as (f b') F' H' → Rep.rp K F' x v → Q v H') → te σ H Q
def Et (tt : TT) (env : List Sl) (f : β → List OV) (m : M β β Bool) : Prop :=
  ∀ (as : List Addr) (σ : St) (F H : Hp) (b : β), Stt as env (f b) σ F H → ∀ (x : Bool) (b' : β), m b = some (x, b') → ∀ Q : Bool → Hp → Prop, (∀ F' H', Nx as F H F' H' → OsOk as (f b') F' H' → Q x H') → tt σ H Q
/-- two-place operations by values -/
def Op2 (K : PySem.W.Frag) {α γ δ : Type} [Rep K α] [Rep K γ] [Rep K δ] (r : R2) (g : α → γ → Option δ) : Prop :=
  ∀ (F H : Hp) (x : α) (y : γ) (z : δ) (v w : V), Ex F H → g x y = some z → Rep.rp K F x v → Rep.rp K F y w → ∀ Q : VK, (∀ u F' H', Nx [] F H F' H' → Rep.rp K F' z u → Q u H') → r v w H Q
variable {α γ δ : Type} [Rep K α] [Rep K γ] [Rep K δ]
def mOp {α γ δ : Type} (g : α → γ → Option δ) (ma : M β β α) (mb : M β β γ) : M β β δ := bd ma fun x => bd mb fun y => ov (g x y)
theorem es_op {r : R2} {g : α → γ → Option δ} (ho : Op2 K r g) {ta tb : TE} {ma : M β β α} {mb : M β β γ} (ha : Es K ta env f ma) (hb : Es K tb env f mb) : Es K (tOp r ta tb) env f (mOp g ma mb) := by
  intro as σ F H b S z b' hm Q q
  obtain ⟨x, b1, e1, hm⟩ := bd_some hm
  obtain ⟨y, b2, e2, hm⟩ := bd_some hm
  obtain ⟨e3, rfl⟩ := ov_some hm
  refine ha as σ F H b S x b1 e1 _ fun v F1 H1 n1 o1 r1 => ?_
  refine hb as σ F1 H1 b1 (S.step n1 o1) y b' e2 _ fun w F2 H2 n2 o2 r2 => ?_
  exact ho F2 H2 x y z v w n2.fh e3 (Rep.mono n2.ff r1) r2 Q fun u F3 H3 n3 r3 => q u F3 H3 ((n1.trans n2).trans n3.nil) (o2.step n3) r3
theorem es_var {i : Nat} {x : α} (h : env[i]? = some (Sl.of K x)) : Es K (tVar i) env f (pu x) := by
  intro as σ F H b S y b' hm Q q
  obtain ⟨rfl, rfl⟩ := pu_some hm
  obtain ⟨v, h1, h2⟩ := S.env.2 i _ h
  exact ⟨v, h1, q v F H (.refl S.ex) S.os h2⟩
theorem es_int {i : Int} : Es K (tC (.int i)) env f (pu i) := by
  intro as σ F H b S y b' hm Q q
  obtain ⟨rfl, rfl⟩ := pu_some hm
  exact q _ F H (.refl S.ex) S.os rfl
theorem es_bl {i : Bool} : Es K (tC (.bl i)) env f (pu i) := by
  intro as σ F H b S y b' hm Q q
  obtain ⟨rfl, rfl⟩ := pu_some hm
  exact q _ F H (.refl S.ex) S.os rfl
theorem es_non : Es K (tC .non) env f (pu ()) := by
  intro as σ F H b S y b' hm Q q
  obtain ⟨rfl, rfl⟩ := pu_some hm
  exact q _ F H (.refl S.ex) S.os rfl
theorem es_noneO : Es K (tC .non) env f (pu (none : Option α)) := by
  intro as σ F H b S y b' hm Q q
  obtain ⟨rfl, rfl⟩ := pu_some hm
  exact q _ F H (.refl S.ex) S.os rfl
theorem es_str {s : Str} {x : Tx} (h : s.cps.toList = x) : Es K (tC (.str s)) env f (pu x) := by
  intro as σ F H b S y b' hm Q q
  obtain ⟨rfl, rfl⟩ := pu_some hm
  refine q _ F H (.refl S.ex) S.os ?_
  show V.str s = V.str (tS x)
  rw [← h, tS_of]
/-- by another view of the value -/
def Cast (K : PySem.W.Frag) {α γ : Type} [Rep K α] [Rep K γ] (g : α → γ) : Prop := ∀ (F : Hp) (x : α) (v : V), Rep.rp K F x v → Rep.rp K F (g x) v
theorem cast_some : Cast K (some : α → Option α) := fun _ _ _ h => h
theorem cast_inl : Cast K (Sum.inl : α → α ⊕ γ) := fun _ _ _ h => h
theorem cast_inr : Cast K (Sum.inr : γ → α ⊕ γ) := fun _ _ _ h => h
def mMap {α γ : Type} (g : α → γ) (ma : M β β α) : M β β γ := bd ma fun x => pu (g x)
theorem es_cast {g : α → γ} (hc : Cast K g) {ta : TE} {ma : M β β α} (ha : Es K ta env f ma) : Es K ta env f (mMap g ma) := by
  intro as σ F H b S z b' hm Q q
  obtain ⟨x, b1, e1, hm⟩ := bd_some hm
  obtain ⟨rfl, rfl⟩ := pu_some hm
  exact ha as σ F H b S x b1 e1 _ fun v F1 H1 n1 o1 r1 => q v F1 H1 n1 o1 (hc _ _ _ r1)
/-- a view that may not be there -/
def CastO (K : PySem.W.Frag) {α γ : Type} [Rep K α] [Rep K γ] (g : α → Option γ) : Prop := ∀ (F : Hp) (x : α) (y : γ) (v : V), g x = some y → Rep.rp K F x v → Rep.rp K F y v
theorem castO_id : CastO K (fun x : Option α => x) := fun _ _ _ _ e h => by
  cases e
  exact h
theorem castO_inl : CastO K (fun x : α ⊕ γ => x.getLeft?) := fun _ x _ _ e h => by
  cases x with
  | inl y => cases e; exact h
  | inr y => cases e
theorem castO_inr : CastO K (fun x : α ⊕ γ => x.getRight?) := fun _ x _ _ e h => by
  cases x with
  | inr y => cases e; exact h
  | inl y => cases e
def mMapO {α γ : Type} (g : α → Option γ) (ma : M β β α) : M β β γ := bd ma fun x => ov (g x)
theorem es_castO {g : α → Option γ} (hc : CastO K g) {ta : TE} {ma : M β β α} (ha : Es K ta env f ma) : Es K ta env f (mMapO g ma) := by
  intro as σ F H b S z b' hm Q q
  obtain ⟨x, b1, e1, hm⟩ := bd_some hm
  obtain ⟨e2, rfl⟩ := ov_some hm
  exact ha as σ F H b S x b' e1 _ fun v F1 H1 n1 o1 r1 => q v F1 H1 n1 o1 (hc _ _ _ _ e2 r1)

/-! ### tests -/
theorem et_test {te : TE} {m : M β β Bool} (h : Es K te env f m) : Et (tTest te) env f m := by
  intro as σ F H b S x b' hm Q q
  exact h as σ F H b S x b' hm _ fun v F1 H1 n1 o1 r1 => ⟨x, r1, q F1 H1 n1 o1⟩
theorem et_B {te : TE} {m : M β β Bool} (h : Es K te env f m) : Et (tB te) env f m := by
  intro as σ F H b S x b' hm Q q
  exact h as σ F H b S x b' hm _ fun v F1 H1 n1 o1 r1 => ⟨x, r1, q F1 H1 n1 o1⟩
def mAnd (ma mb : M β β Bool) : M β β Bool := bd ma fun c => if c = true then mb else pu false
def mOr (ma mb : M β β Bool) : M β β Bool := bd ma fun c => if c = true then pu true else mb
def mNot (ma : M β β Bool) : M β β Bool := bd ma fun c => pu (!c)
def mIf {β' α : Type} (mc : M β β Bool) (ma mb : M β β' α) : M β β' α := bd mc fun c => if c = true then ma else mb
theorem et_and {t u : TT} {ma mb : M β β Bool} (ha : Et t env f ma) (hb : Et u env f mb) : Et (tAnd t u) env f (mAnd ma mb) := by
  intro as σ F H b S x b' hm Q q
  obtain ⟨c, b1, e1, hm⟩ := bd_some hm
  refine ha as σ F H b S c b1 e1 _ fun F1 H1 n1 o1 => ?_
  cases c with
  | true =>
    rw [if_pos rfl] at hm ⊢
    exact hb as σ F1 H1 b1 (S.step n1 o1) x b' hm _ fun F2 H2 n2 o2 => q F2 H2 (n1.trans n2) o2
  | false =>
    rw [if_neg Bool.false_ne_true] at hm ⊢
    obtain ⟨rfl, rfl⟩ := pu_some hm
    exact q F1 H1 n1 o1
theorem et_or {t u : TT} {ma mb : M β β Bool} (ha : Et t env f ma) (hb : Et u env f mb) : Et (tOr t u) env f (mOr ma mb) := by
  intro as σ F H b S x b' hm Q q
  obtain ⟨c, b1, e1, hm⟩ := bd_some hm
  refine ha as σ F H b S c b1 e1 _ fun F1 H1 n1 o1 => ?_
  cases c with
  | true =>
    rw [if_pos rfl] at hm ⊢
    obtain ⟨rfl, rfl⟩ := pu_some hm
    exact q F1 H1 n1 o1
  | false =>
    rw [if_neg Bool.false_ne_true] at hm ⊢
    exact hb as σ F1 H1 b1 (S.step n1 o1) x b' hm _ fun F2 H2 n2 o2 => q F2 H2 (n1.trans n2) o2
theorem et_not {t : TT} {ma : M β β Bool} (ha : Et t env f ma) : Et (tNot t) env f (mNot ma) := by
  intro as σ F H b S x b' hm Q q
  obtain ⟨c, b1, e1, hm⟩ := bd_some hm
  obtain ⟨rfl, rfl⟩ := pu_some hm
  exact ha as σ F H b S c b1 e1 _ fun F1 H1 n1 o1 => q F1 H1 n1 o1
/-- a value's truth -/
def Tru (K : PySem.W.Frag) {α : Type} [Rep K α] (g : α → Option Bool) : Prop := ∀ (F H : Hp) (x : α) (b : Bool) (v : V), Ex F H → g x = some b → Rep.rp K F x v → TruV K v H b
theorem et_tru {g : α → Option Bool} (hg : Tru K g) {te : TE} {m : M β β α} (h : Es K te env f m) : Et (fun σ H Q => te σ H fun x H' => ∃ k, TruV K x H' k ∧ Q k H') env f (mMapO g m) := by
  intro as σ F H b S z b' hm Q q
  obtain ⟨x, b1, e1, hm⟩ := bd_some hm
  obtain ⟨e2, rfl⟩ := ov_some hm
  exact h as σ F H b S x b' e1 _ fun v F1 H1 n1 o1 r1 => ⟨z, hg F1 H1 x z v n1.fh e2 r1, q F1 H1 n1 o1⟩
theorem tru_bl : Tru K (fun x : Bool => some x) := fun _ _ x b v _ e r => by
  cases e
  have r' : v = .bl x := r
  subst r'
  exact rfl
theorem tru_int : Tru K (fun x : Int => some (x != 0)) := fun _ _ x b v _ e r => by
  cases e
  have r' : v = .int x := r
  subst r'
  exact rfl
def gTruL {α : Type} (x : List α) : Option Bool := if x.length ≤ line then some (!x.isEmpty) else none
theorem tru_tx : Tru K (gTruL : Tx → Option Bool) := fun _ _ x b v _ e r => by
  have r' : v = .str (tS x) := r
  subst r'
  unfold gTruL at e
  by_cases hl : x.length ≤ line
  · rw [if_pos hl] at e
    cases e
    refine ⟨by rw [tS_len, sizeLine_eq]; exact hl, ?_⟩
    rw [tS_len]
    cases x <;> simp
    omega
  · rw [if_neg hl] at e
    cases e
theorem tru_list : Tru K (fun x : List α => some (!x.isEmpty)) := fun F H x b v ex e r => by
  cases e
  obtain ⟨p, vs, rfl, h2, h3⟩ := r
  refine .inl ⟨vs, .of (ex _ _ h2), ?_⟩
  cases x <;> cases vs <;> first | rfl | exact h3.elim

/-! ### a if c else b; and, or, not as values -/
theorem es_if {t : TT} {ta tb : TE} {mc : M β β Bool} {ma mb : M β β α} (hc : Et t env f mc) (ha : Es K ta env f ma) (hb : Es K tb env f mb) : Es K (tIf t ta tb) env f (mIf mc ma mb) := by
  intro as σ F H b S x b' hm Q q
  obtain ⟨c, b1, e1, hm⟩ := bd_some hm
  refine hc as σ F H b S c b1 e1 _ fun F1 H1 n1 o1 => ?_
  cases c with
  | true =>
    rw [if_pos rfl] at hm ⊢
    exact ha as σ F1 H1 b1 (S.step n1 o1) x b' hm _ fun v F2 H2 n2 o2 r2 => q v F2 H2 (n1.trans n2) o2 r2
  | false =>
    rw [if_neg Bool.false_ne_true] at hm ⊢
    exact hb as σ F1 H1 b1 (S.step n1 o1) x b' hm _ fun v F2 H2 n2 o2 r2 => q v F2 H2 (n1.trans n2) o2 r2
theorem es_andV {ta tb : TE} {ma mb : M β β Bool} (ha : Es K ta env f ma) (hb : Es K tb env f mb) : Es K (tAndV ta tb) env f (mAnd ma mb) := by
  intro as σ F H b S x b' hm Q q
  obtain ⟨c, b1, e1, hm⟩ := bd_some hm
  refine ha as σ F H b S c b1 e1 _ fun v F1 H1 n1 o1 r1 => ⟨c, r1, ?_⟩
  cases c with
  | true =>
    rw [if_pos rfl] at hm ⊢
    exact hb as σ F1 H1 b1 (S.step n1 o1) x b' hm _ fun v F2 H2 n2 o2 r2 => q v F2 H2 (n1.trans n2) o2 r2
  | false =>
    rw [if_neg Bool.false_ne_true] at hm ⊢
    obtain ⟨rfl, rfl⟩ := pu_some hm
    exact q _ F1 H1 n1 o1 rfl
theorem es_orV {ta tb : TE} {ma mb : M β β Bool} (ha : Es K ta env f ma) (hb : Es K tb env f mb) : Es K (tOrV ta tb) env f (mOr ma mb) := by
  intro as σ F H b S x b' hm Q q
  obtain ⟨c, b1, e1, hm⟩ := bd_some hm
  refine ha as σ F H b S c b1 e1 _ fun v F1 H1 n1 o1 r1 => ⟨c, r1, ?_⟩
  cases c with
  | true =>
    rw [if_pos rfl] at hm ⊢
    obtain ⟨rfl, rfl⟩ := pu_some hm
    exact q _ F1 H1 n1 o1 rfl
  | false =>
    rw [if_neg Bool.false_ne_true] at hm ⊢
    exact hb as σ F1 H1 b1 (S.step n1 o1) x b' hm _ fun v F2 H2 n2 o2 r2 => q v F2 H2 (n1.trans n2) o2 r2
theorem es_notV {ta : TE} {ma : M β β Bool} (ha : Es K ta env f ma) : Es K (tNotV ta) env f (mNot ma) := by
  intro as σ F H b S x b' hm Q q
  obtain ⟨c, b1, e1, hm⟩ := bd_some hm
  obtain ⟨rfl, rfl⟩ := pu_some hm
  exact ha as σ F H b S c b1 e1 _ fun v F1 H1 n1 o1 r1 => ⟨c, r1, q _ F1 H1 n1 o1 rfl⟩

/-! ### arguments -/
/-- a list of arguments as a nested pair -/
class RepA (K : PySem.W.Frag) (α : Type) where
  ra : Hp → α → List V → Prop
  mono : ∀ {F F' : Hp} {x : α} {v : List V}, Ex F F' → ra F x v → ra F' x v
  ar : Nat
  len : ∀ {F : Hp} {x : α} {v : List V}, ra F x v → v.length = ar
  env : α → List Sl
  envOk : ∀ {F : Hp} {x : α} {vs : List V} (as : List Addr), ra F x vs → (env x).length = vs.length ∧ ∀ (i : Nat) (s : Sl), (env x)[i]? = some s → SlOk as F (vs[i]?.map some) s
instance : RepA K Unit := ⟨fun _ _ vs => vs = [], fun _ h => h, 0, fun h => by rw [h]; rfl, fun _ => [], fun as h => ⟨by rw [h] <;> rfl, fun i s e => by simp at e⟩⟩
instance {α γ : Type} [Rep K α] [RepA K γ] : RepA K (α × γ) := ⟨fun F x vs => ∃ v ws, vs = v :: ws ∧ Rep.rp K F x.1 v ∧ RepA.ra K F x.2 ws, fun e ⟨v, ws, h1, h2, h3⟩ => ⟨v, ws, h1, Rep.mono e h2, RepA.mono e h3⟩,
  RepA.ar K γ + 1, fun ⟨v, ws, h1, h2, h3⟩ => by rw [h1, List.length_cons, RepA.len h3], fun x => Sl.of K x.1 :: RepA.env K x.2, fun {F x vs} as ⟨v, ws, h1, h2, h3⟩ => by
    obtain ⟨z1, z2⟩ := RepA.envOk as h3
    subst h1
    refine ⟨by rw [List.length_cons, List.length_cons, z1], fun i s e => ?_⟩
    cases i with
    | zero =>
      have e' : Sl.of K x.1 = s := by simpa using e
      subst e'
      exact ⟨v, rfl, h2⟩
    | succ i => simpa using z2 i s (by simpa using e)⟩
/-- ks: the owned things that are handed over, ahead of the others -/
def Ea (K : PySem.W.Frag) {α : Type} [RepA K α] (ta : TA) (env : List Sl) (f : β → List OV) (ks : List Nat) (m : M β β α) : Prop :=
  ∀ (as : List Addr) (σ : St) (F H : Hp) (b : β), Stt as env (f b) σ F H → ∀ (x : α) (b' : β), m b = some (x, b') → ∀ Q : List V → Hp → Prop, (∀ cs vs F' H', Nx as F H F' H' → OsOk as (f b') F' H' → List.length cs = ks.length → (∀ (i k : Nat), ks[i]? = some k → cs[i]? = as[k]? ∧ k < as.length) → RepA.ra K F' x vs → Q (cs.map V.ref ++ vs) H') → ta σ H Q
theorem ea_nil : Ea K tNil env f [] (pu ()) := by
  intro as σ F H b S x b' hm Q q
  obtain ⟨rfl, rfl⟩ := pu_some hm
  exact q [] [] F H (.refl S.ex) S.os rfl (fun i k h => by simp at h) rfl
def mCons {α γ : Type} (ma : M β β α) (mb : M β β γ) : M β β (α × γ) := bd ma fun x => bd mb fun y => pu (x, y)
theorem ea_cons {η : Type} [RepA K η] {ta : TE} {tr : TA} {ma : M β β α} {mr : M β β η} (ha : Es K ta env f ma) (hr : Ea K tr env f [] mr) : Ea K (tCons ta tr) env f [] (mCons ma mr) := by
  intro as σ F H b S z b' hm Q q
  obtain ⟨x, b1, e1, hm⟩ := bd_some hm
  obtain ⟨y, b2, e2, hm⟩ := bd_some hm
  obtain ⟨rfl, rfl⟩ := pu_some hm
  refine ha as σ F H b S x b1 e1 _ fun v F1 H1 n1 o1 r1 => ?_
  refine hr as σ F1 H1 b1 (S.step n1 o1) y b2 e2 _ fun cs ws F2 H2 n2 o2 hl hc r2 => ?_
  have hcs : cs = [] := List.length_eq_zero_iff.mp hl
  subst hcs
  exact q [] (v :: ws) F2 H2 (n1.trans n2) o2 rfl (fun i k h => by simp at h) ⟨v, ws, rfl, Rep.mono n2.ff r1, r2⟩
theorem ea_own {η : Type} [RepA K η] {i k : Nat} {ks : List Nat} {tr : TA} {mr : M β β η} (h : env[i]? = some (Sl.own k)) (hr : Ea K tr env f ks mr) : Ea K (tCons (tVar i) tr) env f (k :: ks) mr := by
  intro as σ F H b S z b' hm Q q
  obtain ⟨a, h1, h2⟩ := S.env.2 i _ h
  refine ⟨.ref a, h2, ?_⟩
  refine hr as σ F H b S z b' hm _ fun cs ws F2 H2 n2 o2 hl hc r2 => ?_
  refine q (a :: cs) ws F2 H2 n2 o2 (by simp [hl]) (fun i k' hk => ?_) r2
  cases i with
  | zero =>
    have e : k = k' := by simpa using hk
    subst e
    exact ⟨by simpa using h1.symm, (List.getElem?_eq_some_iff.mp h1).1⟩
  | succ i => simpa using hc i k' (by simpa using hk)
/-- items of one kind -/
def El (K : PySem.W.Frag) {α : Type} [Rep K α] (ta : TA) (env : List Sl) (f : β → List OV) (m : M β β (List α)) : Prop :=
  ∀ (as : List Addr) (σ : St) (F H : Hp) (b : β), Stt as env (f b) σ F H → ∀ (x : List α) (b' : β), m b = some (x, b') → ∀ Q : List V → Hp → Prop, (∀ vs F' H', Nx as F H F' H' → OsOk as (f b') F' H' → RpAll (Rep.rp K F') x vs → Q vs H') → ta σ H Q
def mConsL {α : Type} (ma : M β β α) (mb : M β β (List α)) : M β β (List α) := bd ma fun x => bd mb fun y => pu (x :: y)
theorem el_nil : El K (α := α) tNil env f (pu []) := by
  intro as σ F H b S x b' hm Q q
  obtain ⟨rfl, rfl⟩ := pu_some hm
  exact q [] F H (.refl S.ex) S.os trivial
theorem el_cons {ta : TE} {tr : TA} {ma : M β β α} {mr : M β β (List α)} (ha : Es K ta env f ma) (hr : El K tr env f mr) : El K (tCons ta tr) env f (mConsL ma mr) := by
  intro as σ F H b S z b' hm Q q
  obtain ⟨x, b1, e1, hm⟩ := bd_some hm
  obtain ⟨y, b2, e2, hm⟩ := bd_some hm
  obtain ⟨rfl, rfl⟩ := pu_some hm
  refine ha as σ F H b S x b1 e1 _ fun v F1 H1 n1 o1 r1 => ?_
  refine hr as σ F1 H1 b1 (S.step n1 o1) y b2 e2 _ fun ws F2 H2 n2 o2 r2 => ?_
  exact q (v :: ws) F2 H2 (n1.trans n2) o2 ⟨Rep.mono n2.ff r1, r2⟩
def chk {α : Type} (l : List α) : Option (List α) := if l.length ≤ line then some l else none
theorem chk_some {α : Type} {l m : List α} (h : chk l = some m) : l = m ∧ m.length ≤ sizeLine := by
  unfold chk at h
  by_cases e : l.length ≤ line
  · rw [if_pos e] at h
    cases h
    exact ⟨rfl, by rw [sizeLine_eq]; exact e⟩
  · rw [if_neg e] at h
    cases h
theorem chk_ok {α : Type} {l : List α} (h : l.length ≤ line) : chk l = some l := if_pos h
theorem es_lst {ta : TA} {ma : M β β (List α)} (ha : El K ta env f ma) : Es K (tLst ta) env f (mMapO chk ma) := by
  intro as σ F H b S z b' hm Q q
  obtain ⟨x, b1, e1, hm⟩ := bd_some hm
  obtain ⟨e2, rfl⟩ := ov_some hm
  obtain ⟨rfl, hz⟩ := chk_some e2
  refine ha as σ F H b S x b' e1 _ fun vs F1 H1 n1 o1 r1 => ⟨by rw [← r1.length]; exact hz, fun p hp => ?_⟩
  have n2 := Nx.new (o := .lst vs) n1.fh hp
  exact q _ _ _ (n1.trans n2.nil) (o1.step n2) ⟨p, vs, rfl, upd_same, r1.imp fun _ _ => Rep.mono n2.ff⟩
def pr2 {α γ : Type} (x : α × γ × Unit) : α × γ := (x.1, x.2.1)
theorem es_tup2 {ta : TA} {ma : M β β (α × γ × Unit)} (ha : Ea K ta env f [] ma) : Es K (tTup ta) env f (mMap pr2 ma) := by
  intro as σ F H b S z b' hm Q q
  obtain ⟨⟨x, y, _⟩, b1, e1, hm⟩ := bd_some hm
  obtain ⟨rfl, rfl⟩ := pu_some hm
  refine ha as σ F H b S _ b1 e1 _ fun cs vs F1 H1 n1 o1 hl _ r1 => ?_
  have hcs : cs = [] := List.length_eq_zero_iff.mp hl
  subst hcs
  obtain ⟨v, _, rfl, r1, w, _, rfl, r2, rfl⟩ := r1
  refine ⟨by show 2 ≤ sizeLine; rw [sizeLine_eq]; decide, fun p hp => ?_⟩
  have n2 := Nx.new (o := .tup [v, w]) n1.fh hp
  exact q _ _ _ (n1.trans n2.nil) (o1.step n2) ⟨p, v, w, rfl, .of upd_same, Rep.mono n2.ff r1, Rep.mono n2.ff r2⟩
def pr3 {α γ δ : Type} (x : α × γ × δ × Unit) : T3 α γ δ := ⟨x.1, x.2.1, x.2.2.1⟩
theorem es_tup3 {ta : TA} {ma : M β β (α × γ × δ × Unit)} (ha : Ea K ta env f [] ma) : Es K (tTup ta) env f (mMap pr3 ma) := by
  intro as σ F H b S z b' hm Q q
  obtain ⟨⟨x, y, z0, _⟩, b1, e1, hm⟩ := bd_some hm
  obtain ⟨rfl, rfl⟩ := pu_some hm
  refine ha as σ F H b S _ b1 e1 _ fun cs vs F1 H1 n1 o1 hl _ r1 => ?_
  have hcs : cs = [] := List.length_eq_zero_iff.mp hl
  subst hcs
  obtain ⟨v, _, rfl, r1, w, _, rfl, r2, u, _, rfl, r3, rfl⟩ := r1
  refine ⟨by show 3 ≤ sizeLine; rw [sizeLine_eq]; decide, fun p hp => ?_⟩
  have n2 := Nx.new (o := .tup [v, w, u]) n1.fh hp
  exact q _ _ _ (n1.trans n2.nil) (o1.step n2) ⟨p, v, w, u, rfl, .of upd_same, Rep.mono n2.ff r1, Rep.mono n2.ff r2, Rep.mono n2.ff r3⟩
/-- a call of what is known by values -/
def Cl (K : PySem.W.Frag) {α γ : Type} [RepA K α] [Rep K γ] (r : List V → Hp → VK → Prop) (g : α → Option γ) : Prop :=
  ∀ (F H : Hp) (x : α) (z : γ) (vs : List V), Ex F H → g x = some z → RepA.ra K F x vs → ∀ Q : VK, (∀ u F' H', Nx [] F H F' H' → Rep.rp K F' z u → Q u H') → r vs H Q
theorem es_cb {η : Type} [RepA K η] {r : List V → Hp → VK → Prop} {g : η → Option α} (hg : Cl K r g) {ta : TA} {ma : M β β η} (ha : Ea K ta env f [] ma) : Es K (tCB r ta) env f (mMapO g ma) := by
  intro as σ F H b S z b' hm Q q
  obtain ⟨x, b1, e1, hm⟩ := bd_some hm
  obtain ⟨e2, rfl⟩ := ov_some hm
  refine ha as σ F H b S x b' e1 _ fun cs vs F1 H1 n1 o1 hl _ r1 => ?_
  have hcs : cs = [] := List.length_eq_zero_iff.mp hl
  subst hcs
  exact hg F1 H1 x z vs n1.fh e2 r1 Q fun u F2 H2 n2 r2 => q u F2 H2 (n1.trans n2.nil) (o1.step n2) r2
end
end Tw

namespace Tw
open PySem L2

/-! ### statements -/
inductive Fl (γ ρ : Type) where
  | nx (g : γ)
  | bk (g : γ)
  | ct (g : γ)
  | rt (r : ρ)

section
variable {K : PySem.W.Frag}
def SPost (K : PySem.W.Frag) {γ ρ β' : Type} [Rep K ρ] (as : List Addr) (f' : β' → List OV) (eN : γ → List Sl) (F H : Hp) (D : Ends) (o : Fl γ ρ) (b' : β') : Prop :=
  match o with
  | .nx g => ∀ σ' F' H', Nx as F H F' H' → Stt (as.take (f' b').length) (eN g) (f' b') σ' F' H' → D.nx σ' H'
  | .bk g => ∀ σ' F' H', Nx as F H F' H' → Stt (as.take (f' b').length) (eN g) (f' b') σ' F' H' → D.bk σ' H'
  | .ct g => ∀ σ' F' H', Nx as F H F' H' → Stt (as.take (f' b').length) (eN g) (f' b') σ' F' H' → D.ct σ' H'
  | .rt r => ∀ v F' H', Nx as F H F' H' → OsOk (as.take (f' b').length) (f' b') F' H' → Rep.rp K F' r v → D.rt v H'
def Ss (K : PySem.W.Frag) {β β' γ ρ : Type} [Rep K ρ] (ts : TS) (env : List Sl) (f : β → List OV) (f' : β' → List OV) (m : M β β' (Fl γ ρ)) (eN : γ → List Sl) : Prop :=
  ∀ (as : List Addr) (σ : St) (F H : Hp) (b : β), Stt as env (f b) σ F H → ∀ (o : Fl γ ρ) (b' : β'), m b = some (o, b') → ∀ D : Ends, SPost K as f' eN F H D o b' → ts D σ H

/-- fewer slots known -/
def EnvLe : List Sl → List Sl → Prop
  | [], [] => True
  | a :: as, b :: bs => (b = .un ∨ b = a) ∧ EnvLe as bs
  | _, _ => False
theorem EnvLe.len : ∀ {e e' : List Sl}, EnvLe e e' → e.length = e'.length
  | [], [], _ => rfl
  | _ :: _, _ :: _, h => by rw [List.length_cons, List.length_cons, EnvLe.len h.2]
  | [], _ :: _, h => h.elim
  | _ :: _, [], h => h.elim
theorem EnvLe.get : ∀ {e e' : List Sl} (i : Nat) {s : Sl}, EnvLe e e' → e'[i]? = some s → s = .un ∨ e[i]? = some s
  | [], [], _, _, _, h => by simp at h
  | a :: _, b :: _, 0, s, h, q => by
    have e : b = s := by simpa using q
    subst e
    rcases h.1 with h | h
    · exact .inl h
    · exact .inr (by rw [h]; rfl)
  | _ :: _, _ :: _, i + 1, s, h, q => by
    have := EnvLe.get i (s := s) h.2 (by simpa using q)
    simpa using this
  | [], _ :: _, _, _, h, _ => h.elim
  | _ :: _, [], _, _, h, _ => h.elim
theorem EnvLe.refl : ∀ (e : List Sl), EnvLe e e
  | [] => trivial
  | _ :: es => ⟨.inr rfl, EnvLe.refl es⟩
theorem EnvLe.trans : ∀ {e e' e'' : List Sl}, EnvLe e e' → EnvLe e' e'' → EnvLe e e''
  | [], [], [], _, _ => trivial
  | _ :: _, _ :: _, _ :: _, h, h' => ⟨by
    rcases h'.1 with q | q
    · exact .inl q
    · rw [q]; exact h.1, EnvLe.trans h.2 h'.2⟩
  | [], [], _ :: _, _, h => h.elim
  | [], _ :: _, _, h, _ => h.elim
  | _ :: _, [], _, h, _ => h.elim
  | _ :: _, _ :: _, [], _, h => h.elim
theorem EnvOk.le {as : List Addr} {e e' : List Sl} {σ : St} {F : Hp} (ok : EnvOk as e σ F) (h : EnvLe e e') : EnvOk as e' σ F :=
  ⟨ok.1.trans h.len, fun i s q => by
    rcases h.get i q with z | z
    · rw [z]; trivial
    · exact ok.2 i s z⟩
theorem Stt.le {as : List Addr} {e e' : List Sl} {os : List OV} {σ : St} {F H : Hp} (S : Stt as e os σ F H) (h : EnvLe e e') : Stt as e' os σ F H := ⟨S.ex, S.os, S.env.le h⟩
theorem Stt.take {as : List Addr} {e : List Sl} {os : List OV} {σ : St} {F H : Hp} (S : Stt as e os σ F H) : Stt (as.take os.length) e os σ F H := by
  rw [List.take_of_length_le (Nat.le_of_eq S.os.2.1)]
  exact S
theorem OsOk.take {as : List Addr} {os : List OV} {F H : Hp} (S : OsOk as os F H) : OsOk (as.take os.length) os F H := by
  rw [List.take_of_length_le (Nat.le_of_eq S.2.1)]
  exact S
theorem EnvOk.set {as : List Addr} {env : List Sl} {σ : St} {F : Hp} {i : Nat} {s : Sl} {v : V} (ok : EnvOk as env σ F) (h : i < env.length → SlOk as F (some (some v)) s) : EnvOk as (env.set i s) (σ.set i (some v)) F := by
  refine ⟨by rw [List.length_set, List.length_set]; exact ok.1, fun j t q => ?_⟩
  by_cases hj : i = j
  · subst hj
    by_cases hi : i < env.length
    · rw [List.getElem?_set_self hi] at q
      cases q
      rw [List.getElem?_set_self (by rw [ok.1]; exact hi)]
      exact h hi
    · rw [List.getElem?_eq_none (by rw [List.length_set]; omega)] at q
      cases q
  · rw [List.getElem?_set_ne hj] at q ⊢
    exact ok.2 j t q

/-! ### targets -/
section
variable {α γ δ : Type} [Rep K α] [Rep K γ] [Rep K δ]
def Tg (K : PySem.W.Frag) {α : Type} [Rep K α] (g : TG) (env : List Sl) (e' : α → List Sl) : Prop :=
  ∀ (as : List Addr) (σ : St) (F H : Hp) (x : α) (v : V), Ex F H → EnvOk as env σ F → Rep.rp K F x v → ∀ Q : St → Hp → Prop, (∀ σ', EnvOk as (e' x) σ' F → Q σ' H) → g v σ H Q
theorem tg_name {i : Nat} {env : List Sl} : Tg K (gName i) env (fun x : α => env.set i (Sl.of K x)) := fun as σ F H x v _ ok r Q q =>
  q _ (ok.set (s := Sl.of K x) fun _ => ⟨v, rfl, r⟩)
theorem tg_pair {i j : Nat} {env : List Sl} : Tg K (gTup K 2 (gCons (gName i) (gCons (gName j) gNil))) env (fun x : α × γ => (env.set i (Sl.of K x.1)).set j (Sl.of K x.2)) := fun as σ F H x v ex ok r Q q => by
  obtain ⟨p, u, w, rfl, h2, h3, h4⟩ := r
  exact ⟨p, [u, w], rfl, ex.sqT h2, rfl, u, [w], rfl, w, [], rfl, rfl, q _ ((ok.set (s := Sl.of K x.1) fun _ => ⟨u, rfl, h3⟩).set (s := Sl.of K x.2) fun _ => ⟨w, rfl, h4⟩)⟩
theorem tg_tri {i j k : Nat} {env : List Sl} : Tg K (gTup K 3 (gCons (gName i) (gCons (gName j) (gCons (gName k) gNil)))) env (fun x : T3 α γ δ => ((env.set i (Sl.of K x.a)).set j (Sl.of K x.b)).set k (Sl.of K x.c)) := fun as σ F H x v ex ok r Q q => by
  obtain ⟨p, u, w, z, rfl, h2, h3, h4, h5⟩ := r
  exact ⟨p, [u, w, z], rfl, ex.sqT h2, rfl, u, [w, z], rfl, w, [z], rfl, z, [], rfl, rfl, q _ (((ok.set (s := Sl.of K x.a) fun _ => ⟨u, rfl, h3⟩).set (s := Sl.of K x.b) fun _ => ⟨w, rfl, h4⟩).set (s := Sl.of K x.c) fun _ => ⟨z, rfl, h5⟩)⟩
end

/-! ### blocks -/
section
variable {β β1 β2 γ γ' ρ α δ : Type} [Rep K ρ] [Rep K α] [Rep K δ] {env : List Sl} {f : β → List OV} {f1 : β1 → List OV} {f2 : β2 → List OV} {eN : γ → List Sl}
theorem ss_nx {g : γ} (h : EnvLe env (eN g)) : Ss K (ρ := ρ) tNext env f f (pu (.nx g)) eN := by
  intro as σ F H b S o b' hm D q
  obtain ⟨rfl, rfl⟩ := pu_some hm
  exact q σ F H (.refl S.ex) (S.le h).take
theorem ss_bk {g : γ} (h : EnvLe env (eN g)) : Ss K (ρ := ρ) tBreak env f f (pu (.bk g)) eN := by
  intro as σ F H b S o b' hm D q
  obtain ⟨rfl, rfl⟩ := pu_some hm
  exact q σ F H (.refl S.ex) (S.le h).take
theorem ss_ct {g : γ} (h : EnvLe env (eN g)) : Ss K (ρ := ρ) tCont env f f (pu (.ct g)) eN := by
  intro as σ F H b S o b' hm D q
  obtain ⟨rfl, rfl⟩ := pu_some hm
  exact q σ F H (.refl S.ex) (S.le h).take
def mRet {α γ : Type} (ma : M β β α) : M β β (Fl γ α) := bd ma fun x => pu (.rt x)
theorem ss_ret {te : TE} {ma : M β β ρ} (ha : Es K te env f ma) : Ss K (tRet te) env f f (mRet ma) eN := by
  intro as σ F H b S o b' hm D q
  obtain ⟨x, b1, e1, hm⟩ := bd_some hm
  obtain ⟨rfl, rfl⟩ := pu_some hm
  exact ha as σ F H b S x b1 e1 _ fun v F1 H1 n1 o1 r1 => q v F1 H1 n1 o1.take r1
theorem ss_retN : Ss K (ρ := Unit) tRetN env f f (pu (.rt ())) eN := by
  intro as σ F H b S o b' hm D q
  obtain ⟨rfl, rfl⟩ := pu_some hm
  exact q _ F H (.refl S.ex) S.os.take rfl
/-- behind some steps the end's wishes are the same -/
theorem SPost.step {as : List Addr} {F H F1 H1 : Hp} {D : Ends} {o : Fl γ ρ} {b' : β2} (n : Nx as F H F1 H1) (q : SPost K as f2 eN F H D o b') : SPost K as f2 eN F1 H1 D o b' := by
  cases o with
  | nx g => exact fun σ' F' H' n' => q σ' F' H' (n.trans n')
  | bk g => exact fun σ' F' H' n' => q σ' F' H' (n.trans n')
  | ct g => exact fun σ' F' H' n' => q σ' F' H' (n.trans n')
  | rt r => exact fun v F' H' n' => q v F' H' (n.trans n')
theorem SPost.nx {as : List Addr} {F H : Hp} {D : Ends} {N : St → Hp → Prop} {o : Fl γ ρ} {b' : β2} (h : ∀ g, o ≠ .nx g) (q : SPost K as f2 eN F H D o b') : SPost K as f2 eN F H { D with nx := N } o b' := by
  cases o with
  | nx g => exact absurd rfl (h g)
  | bk g => exact q
  | ct g => exact q
  | rt r => exact q
/-- target = value; the rest -/
theorem ss_asg {te : TE} {g : TG} {tr : TS} {ma : M β β α} {e' : α → List Sl} {mr : α → M β β2 (Fl γ ρ)} (ha : Es K te env f ma) (hg : Tg K g env e') (hr : ∀ x, Ss K tr (e' x) f f2 (mr x) eN) :
    Ss K (tSeq (tAsg te g) tr) env f f2 (bd ma mr) eN := by
  intro as σ F H b S o b' hm D q
  obtain ⟨x, b1, e1, hm⟩ := bd_some hm
  refine ha as σ F H b S x b1 e1 _ fun v F1 H1 n1 o1 r1 => ?_
  refine hg as σ F1 H1 x v n1.fh (S.env.mono n1.ff) r1 _ fun σ' ok => ?_
  exact hr x as σ' F1 H1 b1 ⟨n1.fh, o1, ok⟩ o b' hm D (q.step n1)
/-- an expression whose value is dropped; the rest -/
theorem ss_drop {te : TE} {tr : TS} {ma : M β β α} {mr : α → M β β2 (Fl γ ρ)} (ha : Es K te env f ma) (hr : ∀ x, Ss K tr env f f2 (mr x) eN) :
    Ss K (tSeq (tDrop te) tr) env f f2 (bd ma mr) eN := by
  intro as σ F H b S o b' hm D q
  obtain ⟨x, b1, e1, hm⟩ := bd_some hm
  refine ha as σ F H b S x b1 e1 _ fun v F1 H1 n1 o1 r1 => ?_
  exact hr x as σ F1 H1 b1 (S.step n1 o1) o b' hm D (q.step n1)
/-- name op= value; the rest -/
theorem ss_aug {i : Nat} {te : TE} {r : TIp} {tr : TS} {x : α} {g : α → δ → Option α} {ma : M β β δ} {mr : α → M β β2 (Fl γ ρ)} (hi : env[i]? = some (Sl.of K x)) (ho : Op2 K r g) (ha : Es K te env f ma) (hr : ∀ x, Ss K tr (env.set i (Sl.of K x)) f f2 (mr x) eN) :
    Ss K (tSeq (tAug i te r) tr) env f f2 (bd (bd ma fun y => ov (g x y)) mr) eN := by
  intro as σ F H b S o b' hm D q
  obtain ⟨z, b1, e1, hm⟩ := bd_some hm
  obtain ⟨y, b2, e2, e3⟩ := bd_some e1
  obtain ⟨e4, rfl⟩ := ov_some e3
  obtain ⟨v, h1, h2⟩ := S.env.2 i _ hi
  refine ⟨v, h1, ?_⟩
  refine ha as σ F H b S y b1 e2 _ fun w F1 H1 n1 o1 r1 => ?_
  refine ho F1 H1 x y z v w n1.fh e4 (Rep.mono n1.ff h2) r1 _ fun u F2 H2 n2 r2 => ?_
  have n := n1.trans n2.nil
  exact hr z as _ F2 H2 b1 ⟨n2.fh, o1.step n2, ((S.env.mono n.ff).set fun _ => ⟨u, rfl, r2⟩)⟩ o b' hm D (q.step n)
def rtD {β β2 γ ρ : Type} (j : β → β2) (x : ρ) : M β β2 (Fl γ ρ) := fun b => some (.rt x, j b)
/-- a compound statement; the rest (the same owned things through the statement) -/
def mThen {β β2 γ γ' ρ : Type} (j : β → β2) (m : M β β (Fl γ' ρ)) (k : γ' → M β β2 (Fl γ ρ)) : M β β2 (Fl γ ρ) := bd m fun o => match o with
  | .nx g => k g
  | .rt x => rtD j x
  | _ => fun _ => none
def DropF {β β2 : Type} (f : β → List OV) (f2 : β2 → List OV) (j : β → β2) : Prop := ∀ b, ∃ n, f2 (j b) = (f b).take n
theorem DropF.ok {j : β → β2} (h : DropF f f2 j) {as : List Addr} {b : β} {F H : Hp} (S : OsOk as (f b) F H) : OsOk (as.take (f2 (j b)).length) (f2 (j b)) F H := by
  obtain ⟨n, e⟩ := h b
  rw [e]
  have hl := S.2.1
  refine ⟨S.1.sublist (List.take_sublist _ _), by rw [List.length_take, List.length_take]; omega, fun i a o h1 h2 => ?_⟩
  rw [List.getElem?_take] at h1 h2
  split at h1
  · split at h2
    · exact S.2.2 i a o h1 h2
    · cases h2
  · cases h1
def SameLen {β : Type} (f : β → List OV) : Prop := ∀ b b', (f b).length = (f b').length
theorem ss_then {t tr : TS} {m : M β β (Fl γ' ρ)} {e1 : γ' → List Sl} {k : γ' → M β β2 (Fl γ ρ)} {j : β → β2} (h : Ss K t env f f m e1) (hr : ∀ g, Ss K tr (e1 g) f f2 (k g) eN) (hj : DropF f f2 j := by exact fun _ => ⟨_, rfl⟩) (hl : SameLen f := by exact fun _ _ => rfl) :
    Ss K (tSeq t tr) env f f2 (mThen j m k) eN := by
  intro as σ F H b S o b' hm D q
  obtain ⟨o1, b1, q1, hm⟩ := bd_some hm
  have el : as.take (f b1).length = as := List.take_of_length_le (by rw [hl b1 b]; exact Nat.le_of_eq S.os.2.1)
  refine h as σ F H b S o1 b1 q1 { D with nx := tr D } ?_
  cases o1 with
  | nx g =>
    intro σ' F' H' n' S'
    rw [el] at S'
    exact hr g as σ' F' H' b1 S' o b' hm D (q.step n')
  | rt x =>
    intro v F' H' n' o' r
    have hm : some ((Fl.rt x : Fl γ ρ), j b1) = some (o, b') := hm
    cases hm
    rw [el] at o'
    exact q v F' H' n' (hj.ok o') r
  | bk g => cases hm
  | ct g => cases hm
/-- a compound statement that is the last: its breaks and continues go through -/
theorem ss_last {t : TS} {m : M β β2 (Fl γ ρ)} (h : Ss K t env f f2 m eN) : Ss K (tSeq t tNext) env f f2 m eN := by
  intro as σ F H b S o b' hm D q
  exact h as σ F H b S o b' hm _ q
theorem ss_if {c : TT} {t u : TS} {mc : M β β Bool} {ma mb : M β β2 (Fl γ ρ)} (hc : Et c env f mc) (ha : Ss K t env f f2 ma eN) (hb : Ss K u env f f2 mb eN) : Ss K (tIfS c t u) env f f2 (mIf mc ma mb) eN := by
  intro as σ F H b S o b' hm D q
  obtain ⟨x, b1, e1, hm⟩ := bd_some hm
  refine hc as σ F H b S x b1 e1 _ fun F1 H1 n1 o1 => ?_
  cases x with
  | true =>
    rw [if_pos rfl] at hm ⊢
    exact ha as σ F1 H1 b1 (S.step n1 o1) o b' hm D (q.step n1)
  | false =>
    rw [if_neg Bool.false_ne_true] at hm ⊢
    exact hb as σ F1 H1 b1 (S.step n1 o1) o b' hm D (q.step n1)
theorem ss_never {m : M β β2 (Fl γ ρ)} (h : ∀ b, m b = none) : Ss K tNever env f f2 m eN := by
  intro as σ F H b S o b' hm D q
  rw [h b] at hm
  cases hm

/-! ### loops -/
/-- an iterator that walks xs -/
def ItOk (K : PySem.W.Frag) {α : Type} [Rep K α] (J : It) (xs : List α) (F : Hp) : Prop :=
  ∀ (i : Nat) (F2 H2 : Hp), Ex F F2 → Ex F2 H2 → (∀ x, xs[i]? = some x → J.go i H2 ∧ ∀ v H', J.yld i H2 v H' → ∃ F', Nx [] F2 H2 F' H' ∧ Rep.rp K F' x v) ∧ (i = xs.length → J.stop i H2)
def Ei (K : PySem.W.Frag) {β α : Type} [Rep K α] (wi : TI) (env : List Sl) (f : β → List OV) (m : M β β (List α)) : Prop :=
  ∀ (as : List Addr) (σ : St) (F H : Hp) (b : β), Stt as env (f b) σ F H → ∀ (xs : List α) (b' : β), m b = some (xs, b') → ∀ R : It → Hp → Prop, (∀ J F' H', Nx as F H F' H' → OsOk as (f b') F' H' → ItOk K J xs F' → R J H') → wi σ H R
def loopM {β α γ ρ : Type} (body : γ → α → M β β (Fl γ ρ)) : List α → γ → M β β (Fl γ ρ)
  | [], c => pu (.nx c)
  | x :: xs, c => bd (body c x) fun o => match o with
    | .nx c' => loopM body xs c'
    | .ct c' => loopM body xs c'
    | .bk c' => pu (.nx c')
    | .rt r => pu (.rt r)
theorem ss_for {wi : TI} {g : TG} {tb : TS} {mi : M β β (List α)} {c0 : γ} {eT : γ → α → List Sl} {body : γ → α → M β β (Fl γ ρ)} (hi : Ei K wi env f mi) (he : EnvLe env (eN c0)) (hg : ∀ c, Tg K g (eN c) (eT c)) (hb : ∀ c x, Ss K tb (eT c x) f f (body c x) eN)
    (hl : SameLen f := by exact fun _ _ => rfl) : Ss K (tFor wi g tb) env f f (bd mi fun xs => loopM body xs c0) eN := by
  intro as σ F H b S o b' hm D q
  obtain ⟨xs, b1, e1, hm⟩ := bd_some hm
  refine hi as σ F H b S xs b1 e1 _ fun J F1 H1 n1 o1 it => ?_
  have el : ∀ b', as.take (f b').length = as := fun b' => List.take_of_length_le (by rw [hl b' b]; exact Nat.le_of_eq S.os.2.1)
  let W : Nat → Nat → St → Hp → Prop := fun i n σ' H' => n = xs.length - i ∧ i ≤ xs.length ∧ ∃ (c : γ) (b2 : β) (F' : Hp), Nx as F1 H1 F' H' ∧ Stt as (eN c) (f b2) σ' F' H' ∧ loopM body (xs.drop i) c b2 = some (o, b')
  refine ⟨W, ⟨_, rfl, Nat.zero_le _, c0, b1, F1, .refl n1.fh, (S.step n1 o1).le he, hm⟩, ?_⟩
  rintro i n σ2 H2 ⟨rfl, hin, c, b2, F2, n2, S2, hm2⟩
  obtain ⟨t1, t2⟩ := it i F2 H2 n2.ff n2.fh
  have q2 := q.step (n1.trans n2)
  by_cases hlt : i < xs.length
  · refine .inr ?_
    obtain ⟨g1, g2⟩ := t1 xs[i] (List.getElem?_eq_getElem hlt)
    rw [List.drop_eq_getElem_cons hlt] at hm2
    obtain ⟨o1', b3, q3, hm3⟩ := bd_some hm2
    refine ⟨g1, fun σ' H' => ∃ m', m' < xs.length - i ∧ W (i + 1) m' σ' H', fun _ _ h => h, fun v H' y => ?_⟩
    obtain ⟨F', n4, r4⟩ := g2 v H' y
    refine hg c as σ2 F' H' xs[i] v n4.fh (S2.env.mono n4.ff) r4 _ fun σ' ok => ?_
    refine hb c xs[i] as σ' F' H' b2 ⟨n4.fh, S2.os.step n4, ok⟩ o1' b3 q3 _ ?_
    have nx : ∀ c', loopM body (xs.drop (i + 1)) c' b3 = some (o, b') → ∀ σ5 F5 H5, Nx as F' H' F5 H5 → Stt (as.take (f b3).length) (eN c') (f b3) σ5 F5 H5 → ∃ m', m' < xs.length - i ∧ W (i + 1) m' σ5 H5 := fun c' hm' σ5 F5 H5 n5 S5 => by
      rw [el] at S5
      exact ⟨_, by omega, rfl, hlt, c', b3, F5, (n2.trans n4.nil).trans n5, S5, hm'⟩
    cases o1' with
    | nx c' => exact nx c' hm3
    | ct c' => exact nx c' hm3
    | bk c' =>
      obtain ⟨rfl, rfl⟩ := pu_some hm3
      exact fun σ5 F5 H5 n5 S5 => q2 σ5 F5 H5 (n4.nil.trans n5) S5
    | rt r =>
      obtain ⟨rfl, rfl⟩ := pu_some hm3
      exact fun v F5 H5 n5 o5 r5 => q2 v F5 H5 (n4.nil.trans n5) o5 r5
  · have ei : i = xs.length := by omega
    subst ei
    rw [List.drop_length] at hm2
    obtain ⟨rfl, rfl⟩ := pu_some hm2
    exact .inl ⟨t2 rfl, q2 σ2 F2 H2 (.refl S2.ex) S2.take⟩
/-- while, by fuel -/
def whileM {β γ ρ : Type} (mc : γ → M β β Bool) (body : γ → M β β (Fl γ ρ)) : Nat → γ → M β β (Fl γ ρ)
  | 0, _ => fun _ => none
  | n + 1, c => bd (mc c) fun t => if t = true then bd (body c) fun o => match o with
    | .nx c' => whileM mc body n c'
    | .ct c' => whileM mc body n c'
    | .bk c' => pu (.nx c')
    | .rt r => pu (.rt r)
    else pu (.nx c)
theorem ss_while {tc : TT} {tb : TS} {c0 : γ} {n : Nat} {mc : γ → M β β Bool} {body : γ → M β β (Fl γ ρ)} (he : EnvLe env (eN c0)) (hc : ∀ c, Et tc (eN c) f (mc c)) (hb : ∀ c, Ss K tb (eN c) f f (body c) eN)
    (hl : SameLen f := by exact fun _ _ => rfl) : Ss K (tWhile tc tb) env f f (whileM mc body n c0) eN := by
  intro as σ F H b S o b' hm D q
  have el : ∀ b', as.take (f b').length = as := fun b' => List.take_of_length_le (by rw [hl b' b]; exact Nat.le_of_eq S.os.2.1)
  let W : Nat → St → Hp → Prop := fun k σ' H' => ∃ (c : γ) (b2 : β) (F' : Hp), Nx as F H F' H' ∧ Stt as (eN c) (f b2) σ' F' H' ∧ whileM mc body k c b2 = some (o, b')
  refine ⟨W, ⟨n, c0, b, F, .refl S.ex, S.le he, hm⟩, ?_⟩
  rintro k σ2 H2 ⟨c, b2, F2, n2, S2, hm2⟩
  cases k with
  | zero => cases hm2
  | succ k =>
    obtain ⟨t, b3, e3, hm3⟩ := bd_some hm2
    refine hc c as σ2 F2 H2 b2 S2 t b3 e3 _ fun F3 H3 n3 o3 => ?_
    have S3 := S2.step n3 o3
    have q3 := (q.step n2).step n3
    cases t with
    | false =>
      rw [if_neg Bool.false_ne_true] at hm3 ⊢
      obtain ⟨rfl, rfl⟩ := pu_some hm3
      exact q3 σ2 F3 H3 (.refl S3.ex) S3.take
    | true =>
      rw [if_pos rfl] at hm3 ⊢
      obtain ⟨o1', b4, q4, hm4⟩ := bd_some hm3
      refine ⟨fun σ' H' => ∃ m', m' < k + 1 ∧ W m' σ' H', fun _ _ h => h, ?_⟩
      refine hb c as σ2 F3 H3 b3 S3 o1' b4 q4 _ ?_
      have nx : ∀ c', whileM mc body k c' b4 = some (o, b') → ∀ σ5 F5 H5, Nx as F3 H3 F5 H5 → Stt (as.take (f b4).length) (eN c') (f b4) σ5 F5 H5 → ∃ m', m' < k + 1 ∧ W m' σ5 H5 := fun c' hm' σ5 F5 H5 n5 S5 => by
        rw [el] at S5
        exact ⟨k, Nat.lt_succ_self _, c', b4, F5, (n2.trans n3).trans n5, S5, hm'⟩
      cases o1' with
      | nx c' => exact nx c' hm4
      | ct c' => exact nx c' hm4
      | bk c' =>
        obtain ⟨rfl, rfl⟩ := pu_some hm4
        exact fun σ5 F5 H5 n5 S5 => q3 σ5 F5 H5 n5 S5
      | rt r =>
        obtain ⟨rfl, rfl⟩ := pu_some hm4
        exact fun v F5 H5 n5 o5 r5 => q3 v F5 H5 n5 o5 r5

/-! ### what a for walks -/
theorem ei_list {te : TE} {m : M β β (List α)} (h : Es K te env f m) : Ei K (iList K te) env f m := by
  intro as σ F H b S xs b' hm R q
  refine h as σ F H b S xs b' hm _ fun v F1 H1 n1 o1 r1 => ?_
  obtain ⟨p, vs, rfl, h2, h3⟩ := r1
  refine ⟨p, rfl, ⟨vs, .of (n1.fh _ _ h2)⟩, q _ F1 H1 n1 o1 fun i F2 H2 e1 e2 => ⟨fun x hx => ?_, fun hi => ?_⟩⟩
  · have hp : SqL K H2 p vs := .of (e2 _ _ (e1 _ _ h2))
    obtain ⟨v, hv, hr⟩ := h3.get' hx
    refine ⟨⟨vs, v, hp, hv⟩, fun w H' y => ?_⟩
    obtain ⟨rfl, y2⟩ := y
    have := y2 vs hp
    rw [hv] at this
    cases this
    exact ⟨F2, .refl e2, Rep.mono e1 hr⟩
  · exact ⟨vs, .of (e2 _ _ (e1 _ _ h2)), by rw [← h3.length]; omega⟩
/-- lo, lo + 1, .. below hi -/
def rangeI (lo hi : Int) : List Int := (List.range (hi - lo).toNat).map fun (k : Nat) => lo + (k : Int)
theorem rangeI_get {lo hi : Int} {i : Nat} {x : Int} (h : (rangeI lo hi)[i]? = some x) : x = lo + (i : Int) ∧ i < (hi - lo).toNat := by
  unfold rangeI at h
  rw [List.getElem?_map] at h
  by_cases hi' : i < (hi - lo).toNat
  · rw [List.getElem?_range hi'] at h
    cases h
    exact ⟨rfl, hi'⟩
  · rw [List.getElem?_eq_none (by simpa using hi')] at h
    cases h
theorem itOk_range {lo hi : Int} {F : Hp} : ItOk K (Itr lo (hi - lo).toNat) (rangeI lo hi) F := by
  intro i F2 H2 e1 e2
  refine ⟨fun x hx => ?_, fun h => ?_⟩
  · obtain ⟨rfl, hi'⟩ := rangeI_get hx
    refine ⟨hi', fun v H' y => ?_⟩
    obtain ⟨rfl, rfl⟩ := y
    exact ⟨F2, .refl e2, rfl⟩
  · show (hi - lo).toNat ≤ i
    rw [h]
    simp [rangeI]
def ck62 (i : Int) : Option Int := if -(2 ^ 62) ≤ i ∧ i < 2 ^ 62 then some i else none
theorem ck62_some {i j : Int} (h : ck62 i = some j) : i = j ∧ -(2 ^ 62) ≤ j ∧ j < 2 ^ 62 := by
  unfold ck62 at h
  split at h
  · cases h
    exact ⟨rfl, by assumption⟩
  · cases h
def gRange1 (x : Int × Unit) : Option (List Int) := (ck62 x.1).map fun n => rangeI 0 n
def gRange2 (x : Int × Int × Unit) : Option (List Int) := (ck62 x.1).bind fun a => (ck62 x.2.1).map fun n => rangeI a n
theorem ei_range1 {ta : TA} {m : M β β (Int × Unit)} (h : Ea K ta env f [] m) : Ei K (iRng1 ta) env f (mMapO gRange1 m) := by
  intro as σ F H b S xs b' hm R q
  obtain ⟨⟨n, _⟩, b1, e1, hm⟩ := bd_some hm
  obtain ⟨e2, rfl⟩ := ov_some hm
  unfold gRange1 at e2
  obtain ⟨n', e3, rfl⟩ := Option.map_eq_some_iff.mp e2
  obtain ⟨rfl, h1, h2⟩ := ck62_some e3
  refine h as σ F H b S _ b' e1 _ fun cs vs F1 H1 n1 o1 hl _ r1 => ?_
  have hcs : cs = [] := List.length_eq_zero_iff.mp hl
  subst hcs
  obtain ⟨v, _, rfl, rfl, rfl⟩ := r1
  refine ⟨_, rfl, h1, h2, q _ F1 H1 n1 o1 ?_⟩
  have := itOk_range (K := K) (lo := 0) (hi := n) (F := F1)
  rw [Int.sub_zero] at this
  exact this
theorem ei_range2 {ta : TA} {m : M β β (Int × Int × Unit)} (h : Ea K ta env f [] m) : Ei K (iRng2 ta) env f (mMapO gRange2 m) := by
  intro as σ F H b S xs b' hm R q
  obtain ⟨⟨a, n, _⟩, b1, e1, hm⟩ := bd_some hm
  obtain ⟨e2, rfl⟩ := ov_some hm
  unfold gRange2 at e2
  obtain ⟨a', e3, e4⟩ := Option.bind_eq_some_iff.mp e2
  obtain ⟨n', e5, rfl⟩ := Option.map_eq_some_iff.mp e4
  obtain ⟨rfl, h1, h2⟩ := ck62_some e3
  obtain ⟨rfl, h3, h4⟩ := ck62_some e5
  refine h as σ F H b S _ b' e1 _ fun cs vs F1 H1 n1 o1 hl _ r1 => ?_
  have hcs : cs = [] := List.length_eq_zero_iff.mp hl
  subst hcs
  obtain ⟨v, _, rfl, rfl, w, _, rfl, rfl, rfl⟩ := r1
  exact ⟨_, _, rfl, ⟨h1, h2, h3, h4⟩, q _ F1 H1 n1 o1 itOk_range⟩
/-- a text, sign by sign -/
def signs (x : Tx) : List Tx := x.map fun c => [c]
theorem ei_str {te : TE} {m : M β β Tx} (h : Es K te env f m) : Ei K (iStr te) env f (mMap signs m) := by
  intro as σ F H b S xs b' hm R q
  obtain ⟨x, b1, e1, hm⟩ := bd_some hm
  obtain ⟨rfl, rfl⟩ := pu_some hm
  refine h as σ F H b S x b1 e1 _ fun v F1 H1 n1 o1 r1 => ?_
  have r1' : v = .str (tS x) := r1
  subst r1'
  refine ⟨tS x, rfl, q _ F1 H1 n1 o1 fun i F2 H2 ex1 ex2 => ⟨fun y hy => ?_, fun hi => ?_⟩⟩
  · unfold signs at hy
    rw [List.getElem?_map] at hy
    obtain ⟨c, hc, rfl⟩ := Option.map_eq_some_iff.mp hy
    have hi : i < x.length := (List.getElem?_eq_some_iff.mp hc).1
    refine ⟨by show i < (tS x).cps.size; simpa [tS] using hi, fun v H' y => ?_⟩
    obtain ⟨rfl, d, hd, rfl⟩ := y
    refine ⟨F2, .refl ex2, ?_⟩
    have : d = c := by
      have z : (tS x).cps[i]? = some c := by simpa [tS] using hc
      rw [z] at hd
      exact (Option.some.inj hd).symm
    subst this
    rfl
  · show (tS x).cps.size ≤ i
    rw [hi]
    simp [tS, signs]
theorem ei_enum {te : TE} {m : M β β (List α × Unit)} {ta : TA} (h : Ea K ta env f [] m) : Ei K (iEnum K ta) env f (mMap (fun x => ((List.range x.1.length).map fun (k : Nat) => ((k : Int))).zip x.1) m) := by
  intro as σ F H b S xs b' hm R q
  obtain ⟨⟨x, _⟩, b1, e1, hm⟩ := bd_some hm
  obtain ⟨rfl, rfl⟩ := pu_some hm
  refine h as σ F H b S _ b1 e1 _ fun cs vs F1 H1 n1 o1 hl _ r1 => ?_
  have hcs : cs = [] := List.length_eq_zero_iff.mp hl
  subst hcs
  obtain ⟨v, _, rfl, ⟨p, vs, rfl, h2, h3⟩, rfl⟩ := r1
  refine ⟨p, vs, rfl, .of (n1.fh _ _ h2), q _ F1 H1 n1 o1 fun i F2 H2 ex1 ex2 => ⟨fun y hy => ?_, fun hi => ?_⟩⟩
  · have hp : SqL K H2 p vs := .of (ex2 _ _ (ex1 _ _ h2))
    have hi : i < x.length := by
      have := (List.getElem?_eq_some_iff.mp hy).1
      simp at this
      exact this
    have hx : x[i]? = some x[i] := List.getElem?_eq_getElem hi
    have ey : y = ((i : Int), x[i]) := by
      rw [List.getElem?_eq_getElem (by simpa using hi)] at hy
      have := Option.some.inj hy
      rw [← this]
      simp
    subst ey
    obtain ⟨v, hv, hr⟩ := h3.get' hx
    refine ⟨⟨vs, v, hp, hv⟩, fun w H' y => ?_⟩
    obtain ⟨T, z, rfl, hT, rfl, hz⟩ := y
    have := hz vs hp
    rw [hv] at this
    cases this
    exact ⟨_, .new ex2 hT, T, .int (i : Nat), v, rfl, .of upd_same, rfl, Rep.mono (ex1.trans (.new (ex2.none hT))) hr⟩
  · exact ⟨vs, .of (ex2 _ _ (ex1 _ _ h2)), by rw [hi, ← h3.length]; simp⟩
end
end
end Tw

namespace Tw
open PySem L2

/-! ### comprehensions -/
def wipeE (env : List Sl) : List Nat → List Sl
  | [] => env
  | v :: vs => (wipeE env vs).set v .un
theorem wipeE_len (env : List Sl) : ∀ vs, (wipeE env vs).length = env.length
  | [] => rfl
  | v :: vs => by unfold wipeE; rw [List.length_set, wipeE_len env vs]
theorem EnvOk.setAny {as : List Addr} {env : List Sl} {σ : St} {F : Hp} {i : Nat} {x : Option V} (ok : EnvOk as env σ F) : EnvOk as (env.set i .un) (σ.set i x) F := by
  refine ⟨by rw [List.length_set, List.length_set]; exact ok.1, fun j t q => ?_⟩
  by_cases hj : i = j
  · subst hj
    by_cases hi : i < env.length
    · rw [List.getElem?_set_self hi] at q
      cases q
      trivial
    · rw [List.getElem?_eq_none (by rw [List.length_set]; omega)] at q
      cases q
  · rw [List.getElem?_set_ne hj] at q ⊢
    exact ok.2 j t q
theorem EnvOk.wipe {as : List Addr} {env : List Sl} {σ : St} {F : Hp} (ok : EnvOk as env σ F) : ∀ vs : List Nat, EnvOk as (wipeE env vs) (wipe σ vs) F
  | [] => ok
  | v :: vs => by
    unfold wipeE L2.wipe
    exact (EnvOk.wipe ok vs).setAny
/-- a target of names within vs -/
def TgW (g : TG) (vs : List Nat) : Prop := ∀ (v : V) (σ : St) (H : Hp) (Q : St → Hp → Prop), L2.wipe σ vs = σ → g v σ H Q → g v σ H fun σ2 H2 => L2.wipe σ2 vs = σ ∧ Q σ2 H2
theorem wipe_set {i : Nat} {x : Option V} : ∀ {vs : List Nat} {σ : St}, i ∈ vs → L2.wipe (σ.set i x) vs = L2.wipe σ vs
  | [], _, h => nomatch h
  | v :: vs, σ, h => by
    unfold L2.wipe
    by_cases hi : i ∈ vs
    · rw [wipe_set hi]
    · have e : v = i := by
        rcases List.mem_cons.mp h with z | z
        · exact z.symm
        · exact absurd z hi
      subst e
      have : ∀ (ws : List Nat) (σ : St), v ∉ ws → (L2.wipe (σ.set v x) ws) = (L2.wipe σ ws).set v x := by
        intro ws
        induction ws with
        | nil => intro σ _; rfl
        | cons w ws ih =>
          intro σ hw
          unfold L2.wipe
          rw [ih σ fun z => hw (List.mem_cons_of_mem _ z), List.set_comm _ _ fun z => hw (by rw [z]; exact List.mem_cons_self)]
      rw [this vs σ hi, List.set_set]
theorem tgw_name {i : Nat} {vs : List Nat} (h : i ∈ vs) : TgW (gName i) vs := fun v σ H Q e q => ⟨(wipe_set h).trans e, q⟩
theorem tgw_pair {K : PySem.W.Frag} {i j : Nat} {vs : List Nat} (h : i ∈ vs) (h2 : j ∈ vs) : TgW (gTup K 2 (gCons (gName i) (gCons (gName j) gNil))) vs := fun v σ H Q e q => by
  obtain ⟨a, xs, e1, e2, e3, v1, r1, e4, v2, r2, e5, e6, q⟩ := q
  exact ⟨a, xs, e1, e2, e3, v1, r1, e4, v2, r2, e5, e6, by rw [wipe_set h2, wipe_set h, e], q⟩
theorem wipe_sub {σ : St} : ∀ {ws vs : List Nat}, (∀ x ∈ ws, x ∈ vs) → L2.wipe (L2.wipe σ ws) vs = L2.wipe σ vs
  | [], _, _ => rfl
  | w :: ws, vs, h => by
    rw [show L2.wipe σ (w :: ws) = (L2.wipe σ ws).set w none from rfl, wipe_set (h w List.mem_cons_self)]
    exact wipe_sub fun x hx => h x (List.mem_cons_of_mem _ hx)
theorem frz_new {as : List Addr} {D : Addr} {o0 o : HO} {F1 H1 F2 H2 : Hp} (hD : H1 D = none) (n : Nx (D :: as) F1 (upd H1 D o0) F2 H2) (hF : F2 D = none) (hH : H2 D = some o) : Nx as F1 H1 (upd F2 D o) H2 := by
  have ne : ∀ a, H1 a ≠ none → a ≠ D := fun a h z => h (by rw [z]; exact hD)
  refine ⟨n.ff.trans (.new hF), fun a u h => ?_, fun a u h q => ?_, fun a m h => ?_, fun a h => ?_⟩
  · by_cases ha : a = D
    · subst ha
      rw [upd_same] at h
      rw [← h]
      exact hH
    · rw [upd_ne ha] at h
      exact n.fh a u h
  · have hne : a ≠ D := ne a (by rw [q]; exact fun z => nomatch z)
    refine n.keep a u (fun m => ?_) (by rw [upd_ne hne]; exact q)
    rcases List.mem_cons.mp m with z | z
    · exact hne z
    · exact h z
  · rw [upd_ne (ne a h)]
    exact n.old a (fun z => (List.mem_cons.mp z).elim (ne a h) m) (by rw [upd_ne (ne a h)]; exact h)
  · exact n.there a (by rw [upd_ne (ne a h)]; exact h)
theorem OsOk.frz {as : List Addr} {os : List OV} {F H : Hp} {D : Addr} {o : HO} (ok : OsOk as os F H) (h : D ∉ as) (hF : F D = none) : OsOk as os (upd F D o) H :=
  ⟨ok.1, ok.2.1, fun i a v ha hv => by
    obtain ⟨h1, h2, h3⟩ := ok.2.2 i a v ha hv
    have hne : a ≠ D := fun z => h (by rw [← z]; exact List.mem_of_getElem? ha)
    exact ⟨by rw [upd_ne hne]; exact h1, h2, v.stab (.new hF) rfl h3⟩⟩
theorem OsOk.ne {as : List Addr} {os : List OV} {F H : Hp} {D : Addr} (o1 : OsOk as os F H) (hD : H D = none) : D ∉ as := fun m => by
  obtain ⟨i, h1, h2⟩ := List.mem_iff_getElem.mp m
  have hi' : i < os.length := by rw [← o1.2.1]; exact h1
  exact (o1.2.2 i D os[i] (by rw [List.getElem?_eq_getElem h1, h2]) (List.getElem?_eq_getElem hi')).2.1 hD
theorem OsOk.mut {as : List Addr} {os : List OV} {F H : Hp} {D : Addr} {o : HO} (o6 : OsOk as os F H) (h : D ∉ as) : OsOk as os F (upd H D o) := by
  refine ⟨o6.1, o6.2.1, fun j a v ha ho => ?_⟩
  obtain ⟨h1, h2, h3⟩ := o6.2.2 j a v ha ho
  have hne : a ≠ D := fun z => h (by rw [← z]; exact List.mem_of_getElem? ha)
  exact ⟨h1, by rw [upd_ne hne]; exact h2, v.stab (.refl _) (upd_ne hne) h3⟩
section
variable {K : PySem.W.Frag} {β α γ δ : Type} [Rep K α] [Rep K γ] [Rep K δ] {env : List Sl} {f : β → List OV}
def compM (t : α → M β β Bool) (e : α → M β β γ) : List α → M β β (List γ)
  | [] => pu []
  | x :: xs => bd (t x) fun c => if c = true then bd (e x) fun y => bd (compM t e xs) fun ys => pu (y :: ys) else compM t e xs
theorem compM_len {t : α → M β β Bool} {e : α → M β β γ} : ∀ {xs : List α} {b b' : β} {ys : List γ}, compM t e xs b = some (ys, b') → ys.length ≤ xs.length
  | [], b, b', ys, h => by obtain ⟨rfl, rfl⟩ := pu_some h; exact Nat.le_refl _
  | x :: xs, b, b', ys, h => by
    obtain ⟨c, b1, h1, h⟩ := bd_some h
    cases c with
    | true =>
      rw [if_pos rfl] at h
      obtain ⟨y, b2, h2, h⟩ := bd_some h
      obtain ⟨zs, b3, h3, h⟩ := bd_some h
      obtain ⟨rfl, rfl⟩ := pu_some h
      have := compM_len h3
      simp only [List.length_cons]
      omega
    | false =>
      rw [if_neg Bool.false_ne_true] at h
      have := compM_len h
      simp only [List.length_cons]
      omega
/-- [e for x in .. if t] -/
def mLc (mi : M β β (List α)) (t : α → M β β Bool) (e : α → M β β γ) : M β β (List γ) := bd (mMapO chk mi) fun xs => compM t e xs
/-- an owned list ahead of all others -/
theorem es_lc {wi : TI} {g : TG} {tt : TT} {te : TE} {vs : List Nat} {mi : M β β (List α)} {e1 : α → List Sl} {t : α → M β β Bool} {e : α → M β β γ} (hi : Ei K wi env f mi) (hg : Tg K g (wipeE env vs) e1) (hw : TgW g vs) (ht : ∀ x, Et tt (e1 x) f (t x)) (he : ∀ x, Es K te (e1 x) f (e x)) :
    Es K (tLc wi g tt te vs) env f (mLc mi t e) := by
  intro as σ F H b S zs b' hm Q q
  obtain ⟨xs, b1, e1', hm⟩ := bd_some hm
  obtain ⟨xs', b1', e2, e3⟩ := bd_some e1'
  obtain ⟨e4, rfl⟩ := ov_some e3
  obtain ⟨rfl, hz⟩ := chk_some e4
  refine hi as σ F H b S xs' b1 e2 _ fun J F1 H1 n1 o1 it D hD => ?_
  have hDF : F1 D = none := n1.fh.none hD
  have hDas : D ∉ as := o1.ne hD
  let W : Nat → Nat → Hp → Prop := fun i n H' => n = xs'.length - i ∧ i ≤ xs'.length ∧ ∃ (b2 : β) (F' : Hp) (acc : List γ) (accv : List V) (rest : List γ), Nx (D :: as) F1 (upd H1 D (.lst [])) F' H' ∧ F' D = none ∧ H' D = some (.lst accv) ∧ acc.length ≤ i ∧ RpAll (Rep.rp K F') acc accv ∧ OsOk as (f b2) F' H' ∧ compM t e (xs'.drop i) b2 = some (rest, b') ∧ zs = acc ++ rest
  have n0 : Nx [] F1 H1 F1 (upd H1 D (.lst [])) := Nx.newO n1.fh hD
  refine ⟨W, ⟨_, rfl, Nat.zero_le _, b1, F1, [], [], zs, .refl n0.fh, hDF, upd_same, Nat.zero_le _, trivial, o1.step n0, hm, rfl⟩, ?_⟩
  rintro i n H2 ⟨rfl, hin, b2, F2, acc, accv, rest, n2, hF2, hH2, hal, hacc, os2, hm2, hzs⟩
  obtain ⟨t1, t2⟩ := it i F2 H2 n2.ff n2.fh
  have envW : EnvOk as (wipeE env vs) (wipe σ vs) F2 := ((S.env.mono n1.ff).mono n2.ff).wipe vs
  by_cases hlt : i < xs'.length
  · refine .inr ?_
    obtain ⟨g1, g2⟩ := t1 xs'[i] (List.getElem?_eq_getElem hlt)
    rw [List.drop_eq_getElem_cons hlt] at hm2
    obtain ⟨c, b3, q3, hm3⟩ := bd_some hm2
    refine ⟨g1, fun H' => ∃ m', m' < xs'.length - i ∧ W (i + 1) m' H', fun _ h => h, fun v H' y => ?_⟩
    obtain ⟨F', n4, r4⟩ := g2 v H' y
    refine hw _ _ _ _ (wipe_sub fun _ h => h) (hg as _ F' H' xs'[i] v n4.fh (envW.mono n4.ff) r4 _ fun σ' ok => ?_)
    have hH' : H' D = some (.lst accv) := n4.hh _ _ hH2
    have hF' : F' D = none := (n4.old D (fun m => nomatch m) (by rw [hH2]; exact fun z => nomatch z)).trans hF2
    refine ht xs'[i] as σ' F' H' b2 ⟨n4.fh, os2.step n4, ok⟩ c b3 q3 _ fun F5 H5 n5 o5 => ?_
    have hH5 : H5 D = some (.lst accv) := n5.keep _ _ hDas hH'
    have hF5 : F5 D = none := (n5.old D hDas (by rw [hH']; exact fun z => nomatch z)).trans hF'
    have n25 := (n2.trans n4.nil).trans (n5.sub fun x hx => List.mem_cons_of_mem D hx)
    cases c with
    | false =>
      rw [if_neg Bool.false_ne_true] at hm3 ⊢
      exact ⟨_, by omega, rfl, hlt, b3, F5, acc, accv, rest, n25, hF5, hH5, by omega, hacc.imp fun _ _ r => Rep.mono (n4.ff.trans n5.ff) r, o5, hm3, hzs⟩
    | true =>
      rw [if_pos rfl] at hm3 ⊢
      obtain ⟨y', b4, q4, hm4⟩ := bd_some hm3
      obtain ⟨ys, b5, q5, hm5⟩ := bd_some hm4
      obtain ⟨rfl, rfl⟩ := pu_some hm5
      refine he xs'[i] as σ' F5 H5 b3 ⟨n5.fh, o5, ok.mono n5.ff⟩ y' b4 q4 _ fun u F6 H6 n6 o6 r6 => ?_
      have hH6 : H6 D = some (.lst accv) := n6.keep _ _ hDas hH5
      have hF6 : F6 D = none := (n6.old D hDas (by rw [hH5]; exact fun z => nomatch z)).trans hF5
      have n7 : Nx (D :: as) F6 H6 F6 (upd H6 D (.lst (accv ++ [u]))) := Nx.mut n6.fh List.mem_cons_self hF6
      refine ⟨accv, hH6, ?_, _, (by omega : xs'.length - (i + 1) < xs'.length - i), rfl, hlt, b4, F6, acc ++ [y'], accv ++ [u], ys, (n25.trans (n6.sub fun x hx => List.mem_cons_of_mem D hx)).trans n7, hF6, upd_same, by rw [List.length_append, List.length_singleton]; omega, ?_, ?_, q5, by rw [hzs]; simp⟩
      · rw [← hacc.length]
        have : i < xs'.length := hlt
        have hs := sizeLine_eq
        omega
      · exact (hacc.imp fun _ _ r => Rep.mono ((n4.ff.trans n5.ff).trans n6.ff) r).app ⟨r6, trivial⟩
      · exact o6.mut hDas
  · have ei : i = xs'.length := by omega
    subst ei
    rw [List.drop_length] at hm2
    obtain ⟨rfl, rfl⟩ := pu_some hm2
    rw [List.append_nil] at hzs
    subst hzs
    refine .inl ⟨t2 rfl, ?_⟩
    -- the list is frozen
    have n3 : Nx as F1 H1 (upd F2 D (.lst accv)) H2 := frz_new hD n2 hF2 hH2
    exact q _ _ _ (n1.trans n3) (os2.frz hDas hF2) ⟨D, accv, rfl, upd_same, hacc.imp fun _ _ => Rep.mono (.new hF2)⟩
end
end Tw

namespace Tw
open PySem L2

/-! ### defs: promises, bodies, calls -/
section
variable {K : PySem.W.Frag}
def sp (K : PySem.W.Frag) {α ρ βc : Type} [RepA K α] [Rep K ρ] (fc : βc → List OV) (mc : α → M βc βc ρ) : Sp := fun vs H Q _ => ∃ (cs : List Addr) (dv : List V) (F : Hp) (b b' : βc) (x : α) (r : ρ), vs = cs.map V.ref ++ dv ∧ Ex F H ∧ OsOk cs (fc b) F H ∧ RepA.ra K F x dv ∧ mc x b = some (r, b') ∧
  ∀ v F' H', Nx cs F H F' H' → OsOk cs (fc b') F' H' → Rep.rp K F' r v → Q v H'
theorem sp_len {α ρ βc : Type} [RepA K α] [Rep K ρ] {fc : βc → List OV} {mc : α → M βc βc ρ} {n : Nat} (h : ∀ b, (fc b).length + RepA.ar K α = n) : ∀ vs H Q E, sp K fc mc vs H Q E → vs.length = n := fun vs H Q E ⟨cs, dv, F, b, b', x, r, e, _, o, a, _⟩ => by
  rw [e, List.length_append, List.length_map, o.2.1, RepA.len a, h]
def retM {β γ ρ : Type} (m : M β β (Fl γ ρ)) : M β β ρ := bd m fun o => match o with
  | .rt r => pu r
  | _ => fun _ => none
def retU {β γ : Type} (m : M β β (Fl γ Unit)) : M β β Unit := bd m fun o => match o with
  | .rt r => pu r
  | .nx _ => pu ()
  | _ => fun _ => none
/-- the slots at the entry: k owned things, the arguments, the others -/
def env0 (k : Nat) (es : List Sl) (n : Nat) : List Sl := (List.range k).map Sl.own ++ (es ++ List.replicate (n - k - es.length) .un)
theorem env0_ok {α : Type} [RepA K α] {cs : List Addr} {F : Hp} {x : α} {dv : List V} {N : List Str} (ha : RepA.ra K F x dv) (hn : cs.length + RepA.ar K α ≤ N.length) : EnvOk cs (env0 cs.length (RepA.env K x) N.length) (L2.start N (cs.map V.ref ++ dv)) F := by
  obtain ⟨z1, z2⟩ := RepA.envOk cs ha
  have z3 := RepA.len ha
  unfold env0 L2.start
  refine ⟨by simp only [List.length_append, List.length_map, List.length_replicate, List.length_range]; omega, fun i s e => ?_⟩
  rw [List.map_append, List.map_map, List.append_assoc]
  by_cases h1 : i < cs.length
  · rw [List.getElem?_append_left (by simpa using h1)] at e ⊢
    rw [List.getElem?_map, List.getElem?_range h1] at e
    cases e
    exact ⟨cs[i], List.getElem?_eq_getElem h1, by rw [List.getElem?_map, List.getElem?_eq_getElem h1]; rfl⟩
  · rw [List.getElem?_append_right (by simpa using Nat.le_of_not_lt h1)] at e ⊢
    simp only [List.length_map, List.length_range] at e ⊢
    by_cases h2 : i - cs.length < dv.length
    · rw [List.getElem?_append_left (by rw [z1]; exact h2)] at e
      rw [List.getElem?_append_left (by simpa using h2), List.getElem?_map]
      exact z2 _ s e
    · rw [List.getElem?_append_right (by rw [z1]; omega)] at e
      by_cases h4 : i - cs.length - (RepA.env K x).length < N.length - cs.length - (RepA.env K x).length
      · rw [List.getElem?_replicate, if_pos h4] at e
        cases e
        trivial
      · rw [List.getElem?_replicate, if_neg h4] at e
        cases e
theorem run_body {α ρ βc γ : Type} [RepA K α] [Rep K ρ] {fc : βc → List OV} {mc : α → M βc βc ρ} {m : α → M βc βc (Fl γ ρ)} {eN : α → γ → List Sl} {t : TS} {N : List Str} {k : Nat} {vs : List V} {H : Hp} {Q : VK} {E : XK} (h : sp K fc mc vs H Q E) (hm : ∀ x, mc x = retM (m x))
    (n a : Nat) (hk : ∀ b, (fc b).length = k) (hN : N.length = n) (har : RepA.ar K α = a) (hn : k + a ≤ n) (hs : ∀ x, Ss K t (env0 k (RepA.env K x) n) fc fc (m x) (eN x)) : t { nx := fun _ H' => Q .non H', rt := Q } (L2.start N vs) H := by
  subst hN har
  obtain ⟨cs, dv, F, b, b', x, r, rfl, ex, os, ha, e, q⟩ := h
  have hc : cs.length = k := os.2.1.trans (hk b)
  rw [hm] at e
  obtain ⟨o, b1, e1, e2⟩ := bd_some e
  have ev := env0_ok (N := N) ha (by rw [hc]; exact hn)
  rw [hc] at ev
  refine hs x cs _ F H b ⟨ex, os, ev⟩ o b1 e1 _ ?_
  cases o with
  | rt r' =>
    obtain ⟨rfl, rfl⟩ := pu_some e2
    intro v F' H' n o' rv
    rw [List.take_of_length_le (by rw [os.2.1, hk, hk]; exact Nat.le_refl _)] at o'
    exact q v F' H' n o' rv
  | nx g => cases e2
  | bk g => cases e2
  | ct g => cases e2
theorem run_bodyU {α βc γ : Type} [RepA K α] {fc : βc → List OV} {mc : α → M βc βc Unit} {m : α → M βc βc (Fl γ Unit)} {eN : α → γ → List Sl} {t : TS} {N : List Str} {k : Nat} {vs : List V} {H : Hp} {Q : VK} {E : XK} (h : sp K fc mc vs H Q E) (hm : ∀ x, mc x = retU (m x))
    (n a : Nat) (hk : ∀ b, (fc b).length = k) (hN : N.length = n) (har : RepA.ar K α = a) (hn : k + a ≤ n) (hs : ∀ x, Ss K t (env0 k (RepA.env K x) n) fc fc (m x) (eN x)) : t { nx := fun _ H' => Q .non H', rt := Q } (L2.start N vs) H := by
  subst hN har
  obtain ⟨cs, dv, F, b, b', x, r, rfl, ex, os, ha, e, q⟩ := h
  have hc : cs.length = k := os.2.1.trans (hk b)
  rw [hm] at e
  obtain ⟨o, b1, e1, e2⟩ := bd_some e
  have ev := env0_ok (N := N) ha (by rw [hc]; exact hn)
  rw [hc] at ev
  refine hs x cs _ F H b ⟨ex, os, ev⟩ o b1 e1 _ ?_
  cases o with
  | rt r' =>
    obtain ⟨rfl, rfl⟩ := pu_some e2
    intro v F' H' n o' rv
    rw [List.take_of_length_le (by rw [os.2.1, hk, hk]; exact Nat.le_refl _)] at o'
    exact q v F' H' n o' rv
  | nx g =>
    obtain ⟨rfl, rfl⟩ := pu_some e2
    intro σ' F' H' n S'
    have o' := S'.os
    rw [List.take_of_length_le (by rw [os.2.1, hk, hk]; exact Nat.le_refl _)] at o'
    exact q .non F' H' n o' rfl
  | bk g => cases e2
  | ct g => cases e2

/-! calls -/
def setAll : List OV → List Nat → List OV → List OV
  | os, k :: ks, c :: cs => setAll (os.set k c) ks cs
  | os, _, _ => os
theorem setAll_len : ∀ {ks : List Nat} {cs os : List OV}, (setAll os ks cs).length = os.length
  | [], cs, _ => by cases cs <;> rfl
  | _ :: _, [], _ => rfl
  | k :: ks, c :: cs, os => by
    show (setAll (os.set k c) ks cs).length = _
    rw [setAll_len, List.length_set]
theorem setAll_get {j : Nat} : ∀ {ks : List Nat} {cs os : List OV}, (j ∉ ks → (setAll os ks cs)[j]? = os[j]?)
  | [], cs, os, _ => by cases cs <;> rfl
  | _ :: _, [], _, _ => rfl
  | k :: ks, c :: cs, os, h => by
    show (setAll (os.set k c) ks cs)[j]? = _
    rw [setAll_get fun m => h (List.mem_cons_of_mem _ m), List.getElem?_set_ne fun z => h (by rw [z]; exact List.mem_cons_self)]
theorem setAll_at : ∀ {ks : List Nat} {cs os : List OV} {i k : Nat}, ks.Nodup → ks[i]? = some k → i < cs.length → k < os.length → (setAll os ks cs)[k]? = cs[i]?
  | [], _, _, _, _, _, h, _, _ => by simp at h
  | _ :: _, [], _, _, _, _, _, h, _ => by simp at h
  | k0 :: ks, c :: cs, os, 0, k, nd, h, _, hk => by
    have e : k0 = k := by simpa using h
    subst e
    show (setAll (os.set k0 c) ks cs)[k0]? = some c
    rw [setAll_get (List.nodup_cons.mp nd).1, List.getElem?_set_self hk]
  | k0 :: ks, c :: cs, os, i + 1, k, nd, h, hi, hk => by
    show (setAll (os.set k0 c) ks cs)[k]? = _
    rw [setAll_at (List.nodup_cons.mp nd).2 (i := i) (by simpa using h) (by simpa using hi) (by rw [List.length_set]; exact hk)]
    simp
def zoom {β βc ρ : Type} (get : β → βc) (put : β → βc → β) (m : M βc βc ρ) : M β β ρ := fun b => (m (get b)).map fun r => (r.1, put b r.2)
variable {β : Type} {env : List Sl} {f : β → List OV}
theorem es_call {α ρ βc : Type} [RepA K α] [Rep K ρ] {fc : βc → List OV} {mc : α → M βc βc ρ} {get : β → βc} {put : β → βc → β} {ks : List Nat} {E : XK} {ta : TA} {ma : M β β α} (ha : Ea K ta env f ks ma)
    (hg : ∀ b, (fc (get b)).map some = ks.map fun k => (f b)[k]?) (hp : ∀ b c, f (put b c) = setAll (f b) ks (fc c)) (hk : ∀ c, (fc c).length = ks.length) (nd : ks.Nodup := by decide) :
    Es K (tCall (sp K fc mc) [] E ta) env f (bd ma fun x => zoom get put (mc x)) := by
  intro as σ F H b S r b' hm Q q
  obtain ⟨x, b1, e1, hm⟩ := bd_some hm
  unfold zoom at hm
  obtain ⟨⟨r', c'⟩, e2, e3⟩ := Option.map_eq_some_iff.mp hm
  cases e3
  refine ha as σ F H b S x b1 e1 _ fun cs vs F1 H1 n1 o1 hl hc ra => ?_
  have hcs : ∀ {i : Nat} {a : Addr}, cs[i]? = some a → ∃ k, ks[i]? = some k ∧ as[k]? = some a ∧ k < as.length := fun {i a} h => by
    have hi : i < ks.length := by rw [← hl]; exact (List.getElem?_eq_some_iff.mp h).1
    obtain ⟨z1, z2⟩ := hc i ks[i] (List.getElem?_eq_getElem hi)
    exact ⟨ks[i], List.getElem?_eq_getElem hi, by rw [← z1]; exact h, z2⟩
  have fget : ∀ {i k : Nat}, ks[i]? = some k → (fc (get b1))[i]? = (f b1)[k]? := fun {i k} h => by
    have := congrArg (fun l : List (Option OV) => l[i]?) (hg b1)
    simp only [List.getElem?_map, h, Option.map_some] at this
    cases e : (fc (get b1))[i]? with
    | none => rw [e] at this; cases this
    | some o => rw [e] at this; exact Option.some.inj this
  have ndc : cs.Nodup := by
    rw [List.nodup_iff_pairwise_ne, List.pairwise_iff_getElem]
    intro i j hi hj hij z
    obtain ⟨k1, a1, a2, a3⟩ := hcs (List.getElem?_eq_getElem hi)
    obtain ⟨k2, b1', b2', b3'⟩ := hcs (List.getElem?_eq_getElem hj)
    rw [z] at a2
    have ek : k1 = k2 := by
      have h1 := (List.getElem?_eq_some_iff.mp a2)
      have h2 := (List.getElem?_eq_some_iff.mp b2')
      obtain ⟨p1, q1⟩ := h1
      obtain ⟨p2, q2⟩ := h2
      exact (List.getElem_inj o1.1).mp (q1.trans q2.symm)
    subst ek
    have h1 := (List.getElem?_eq_some_iff.mp a1)
    have h2 := (List.getElem?_eq_some_iff.mp b1')
    obtain ⟨p1, q1⟩ := h1
    obtain ⟨p2, q2⟩ := h2
    exact absurd ((List.getElem_inj nd).mp (q1.trans q2.symm)) (by omega)
  have okc : OsOk cs (fc (get b1)) F1 H1 := ⟨ndc, by rw [hl, hk], fun i a o h1 h2 => by
    obtain ⟨k, a1, a2, a3⟩ := hcs h1
    rw [fget a1] at h2
    exact o1.2.2 k a o a2 h2⟩
  show sp K fc mc (cs.map V.ref ++ vs ++ []) H1 Q E
  rw [List.append_nil]
  refine ⟨cs, vs, F1, get b1, c', x, r', rfl, n1.fh, okc, ra, e2, fun v F2 H2 n2 o2 rv => ?_⟩
  have sub : ∀ y ∈ cs, y ∈ as := fun y hy => by
    obtain ⟨i, hi⟩ := List.mem_iff_getElem?.mp hy
    obtain ⟨k, _, a2, _⟩ := hcs hi
    exact List.mem_of_getElem? a2
  refine q v F2 H2 (n1.trans (n2.sub sub)) ?_ rv
  rw [hp]
  refine ⟨o1.1, by rw [setAll_len]; exact o1.2.1, fun j a o h1 h2 => ?_⟩
  have hj : j < as.length := (List.getElem?_eq_some_iff.mp h1).1
  by_cases hm : j ∈ ks
  · obtain ⟨i, hi⟩ := List.mem_iff_getElem?.mp hm
    have hil : i < ks.length := (List.getElem?_eq_some_iff.mp hi).1
    rw [setAll_at nd hi (by rw [hk]; exact hil) (by rw [← o1.2.1]; exact hj)] at h2
    obtain ⟨z1, z2⟩ := hc i j hi
    exact o2.2.2 i a o (by rw [z1]; exact h1) h2
  · rw [setAll_get hm] at h2
    obtain ⟨h3, h4, h5⟩ := o1.2.2 j a o h1 h2
    have hna : a ∉ cs := fun hy => by
      obtain ⟨i, hi⟩ := List.mem_iff_getElem?.mp hy
      obtain ⟨k, a1, a2, a3⟩ := hcs hi
      have ek : k = j := by
        obtain ⟨p1, q1⟩ := List.getElem?_eq_some_iff.mp a2
        obtain ⟨p2, q2⟩ := List.getElem?_eq_some_iff.mp h1
        exact (List.getElem_inj o1.1).mp (q1.trans q2.symm)
      subst ek
      exact hm (List.mem_of_getElem? a1)
    refine ⟨(n2.old a hna h4).trans h3, n2.there a h4, o.stab n2.ff ?_ h5⟩
    cases e : H1 a with
    | none => exact absurd e h4
    | some u => exact n2.keep a u hna e
/-- a def that is handed no owned thing -/
abbrev f0 : Unit → List OV := fun _ => []
theorem es_callP {α ρ : Type} [RepA K α] [Rep K ρ] {mc : α → M Unit Unit ρ} {E : XK} {ta : TA} {ma : M β β α} (ha : Ea K ta env f [] ma) :
    Es K (tCall (sp K f0 mc) [] E ta) env f (bd ma fun x => zoom (fun _ => ()) (fun b _ => b) (mc x)) := es_call ha (fun _ => rfl) (fun _ _ => rfl) (fun _ => rfl)

/-! ### owned lists -/
variable {α γ : Type} [Rep K α] [Rep K γ]
def ovL (K : PySem.W.Frag) {α : Type} [Rep K α] (l : List α) : OV := ⟨fun F H a => ∃ vs, H a = some (.lst vs) ∧ RpAll (Rep.rp K F) l vs, fun e h ⟨vs, h1, h2⟩ => ⟨vs, by rw [h]; exact h1, h2.imp fun _ _ => Rep.mono e⟩⟩
variable {β1 β2 ρ : Type} [Rep K ρ] {f1 : β1 → List OV} {f2 : β2 → List OV} {eN : γ → List Sl}
theorem EnvOk.own {as : List Addr} {env : List Sl} {σ : St} {F : Hp} {i : Nat} {p : Addr} (ok : EnvOk as env σ F) : EnvOk (as ++ [p]) (env.set i (.own as.length)) (σ.set i (some (.ref p))) F := by
  have ok1 : EnvOk (as ++ [p]) env σ F := ⟨ok.1, fun j s e => by
    have := ok.2 j s e
    cases s with
    | un => trivial
    | dat q m => exact this
    | own k =>
      obtain ⟨a, h1, h2⟩ := this
      exact ⟨a, by rw [List.getElem?_append_left (List.getElem?_eq_some_iff.mp h1).1]; exact h1, h2⟩⟩
  exact ok1.set fun _ => ⟨p, by simp, rfl⟩
def extF (K : PySem.W.Frag) {β α : Type} [Rep K α] (f : β → List OV) : β × List α → List OV := fun b => f b.1 ++ [ovL K b.2]
def newM {β α β2 δ : Type} (m : M (β × List α) β2 δ) : M β β2 δ := fun b => m (b, [])
def frzM {β α β2 δ : Type} (m : List α → M β β2 δ) : M (β × List α) β2 δ := fun b => m b.2 b.1
/-- x = []; the rest, in which x is owned, the last of all -/
theorem ss_new {γ : Type} {eN : γ → List Sl} {i k : Nat} {tr : TS} {mr : M (β × List α) β2 (Fl γ ρ)} (hk : ∀ b, (f b).length = k) (h2 : ∀ b, (f2 b).length ≤ k) (hr : Ss K tr (env.set i (.own k)) (extF K f) f2 mr eN) :
    Ss K (tSeq (tAsg (tLst tNil) (gName i)) tr) env f f2 (newM mr) eN := by
  intro as σ F H b S o b' hm D q
  refine ⟨Nat.zero_le _, fun p hp => ?_⟩
  have n1 : Nx [] F H F (upd H p (.lst [])) := Nx.newO S.ex hp
  have hpas := S.os.ne hp
  have hl : as.length = k := S.os.2.1.trans (hk b)
  have hF : F p = none := S.ex.none hp
  have o1 : OsOk (as ++ [p]) (f b ++ [ovL K ([] : List α)]) F (upd H p (.lst [])) := by
    have o := S.os.mut (o := .lst []) hpas
    refine ⟨?_, by rw [List.length_append, List.length_append, o.2.1]; rfl, fun j a v h1 h2 => ?_⟩
    · rw [List.nodup_append]
      exact ⟨o.1, by simp, fun x hx y hy => by
        have : y = p := by simpa using hy
        subst this
        exact fun z => hpas (by rw [← z]; exact hx)⟩
    · by_cases hj : j < as.length
      · rw [List.getElem?_append_left hj] at h1
        rw [List.getElem?_append_left (by rw [← S.os.2.1]; exact hj)] at h2
        exact o.2.2 j a v h1 h2
      · rw [List.getElem?_append_right (by omega)] at h1
        rw [List.getElem?_append_right (by rw [← S.os.2.1]; omega)] at h2
        have hj0 : j - as.length = 0 := by
          have := (List.getElem?_eq_some_iff.mp h1).1
          simp at this
          omega
        rw [hj0] at h1
        rw [← S.os.2.1, hj0] at h2
        cases h1
        cases h2
        exact ⟨hF, by rw [upd_same]; exact nofun, [], upd_same, trivial⟩
  have ev := (S.env.own (i := i) (p := p))
  rw [hl] at ev
  refine hr (as ++ [p]) _ F (upd H p (.lst [])) (b, []) ⟨n1.fh, o1, ev⟩ o b' hm D ?_
  have back : ∀ {F' H'}, Nx (as ++ [p]) F (upd H p (.lst [])) F' H' → Nx as F H F' H' := fun {F' H'} n => by
    have ne : ∀ a, H a ≠ none → a ≠ p := fun a h z => h (by rw [z]; exact hp)
    refine ⟨n.ff, n.fh, fun a u h e => ?_, fun a m h => n.old a (fun z => (List.mem_append.mp z).elim m fun z => ne a h (by simpa using z)) (by rw [upd_ne (ne a h)]; exact h), fun a h => n.there a (by rw [upd_ne (ne a h)]; exact h)⟩
    have hne : a ≠ p := ne a (by rw [e]; exact fun z => nomatch z)
    refine n.keep a u (fun m => ?_) (by rw [upd_ne hne]; exact e)
    rcases List.mem_append.mp m with z | z
    · exact h z
    · exact hne (by simpa using z)
  have tk : ∀ b : β2, (as ++ [p]).take (f2 b).length = as.take (f2 b).length := fun b => List.take_append_of_le_length (by rw [hl]; exact h2 b)
  cases o with
  | nx g => exact fun σ' F' H' n' S' => q σ' F' H' (back n') (by rw [← tk]; exact S')
  | bk g => exact fun σ' F' H' n' S' => q σ' F' H' (back n') (by rw [← tk]; exact S')
  | ct g => exact fun σ' F' H' n' S' => q σ' F' H' (back n') (by rw [← tk]; exact S')
  | rt r => exact fun v F' H' n' o' => q v F' H' (back n') (by rw [← tk]; exact o')
/-- an owned thing's new state -/
theorem OsOk.put {as : List Addr} {os : List OV} {F H : Hp} {k : Nat} {p : Addr} {o : HO} {ow : OV} (ok : OsOk as os F H) (hp : as[k]? = some p) (h : ow.own F (upd H p o) p) : OsOk as (os.set k ow) F (upd H p o) := by
  refine ⟨ok.1, by rw [List.length_set]; exact ok.2.1, fun j a v h1 h2 => ?_⟩
  by_cases hj : k = j
  · subst hj
    rw [hp] at h1
    cases h1
    have hk : k < os.length := by rw [← ok.2.1]; exact (List.getElem?_eq_some_iff.mp hp).1
    rw [List.getElem?_set_self hk] at h2
    cases h2
    obtain ⟨z1, _, _⟩ := ok.2.2 k p os[k] hp (List.getElem?_eq_getElem hk)
    exact ⟨z1, by rw [upd_same]; exact nofun, h⟩
  · rw [List.getElem?_set_ne hj] at h2
    obtain ⟨z1, z2, z3⟩ := ok.2.2 j a v h1 h2
    have hne : a ≠ p := fun z => by
      subst z
      obtain ⟨p1, q1⟩ := List.getElem?_eq_some_iff.mp hp
      obtain ⟨p2, q2⟩ := List.getElem?_eq_some_iff.mp h1
      exact hj ((List.getElem_inj ok.1).mp (q1.trans q2.symm))
    exact ⟨z1, by rw [upd_ne hne]; exact z2, v.stab (.refl _) (upd_ne hne) z3⟩
theorem Stt.at_ {as : List Addr} {env : List Sl} {os : List OV} {σ : St} {F H : Hp} {i k : Nat} {ow : OV} (S : Stt as env os σ F H) (hi : env[i]? = some (.own k)) (hk : os[k]? = some ow) : ∃ p, as[k]? = some p ∧ σ[i]? = some (some (.ref p)) ∧ F p = none ∧ p ∈ as ∧ ow.own F H p := by
  obtain ⟨p, h1, h2⟩ := S.env.2 i _ hi
  obtain ⟨z1, _, z3⟩ := S.os.2.2 k p ow h1 hk
  exact ⟨p, h1, h2, z1, List.mem_of_getElem? h1, z3⟩
/-- x.append(e); the rest -/
def gApp {α : Type} (l : List α) (x : α) : Option (List α) := if l.length < line then some (l ++ [x]) else none
def mUpd {β α δ : Type} (get : β → α) (put : β → α → β) (g : α → δ → Option α) (x : δ) : M β β Unit := fun b => (g (get b) x).map fun l => ((), put b l)
theorem ss_app {i k : Nat} {te : TE} {tr : TS} {ma : M β β α} {get : β → List α} {put : β → List α → β} {mr : M β β2 (Fl γ ρ)} (hi : env[i]? = some (.own k)) (hg : ∀ b, (f b)[k]? = some (ovL K (get b))) (hp : ∀ b l, f (put b l) = (f b).set k (ovL K l))
    (ha : Es K te env f ma) (hr : Ss K tr env f f2 mr eN) :
    Ss K (tSeq (tDrop (tBM K "list" rAppend (tVar i) (tCons te tNil))) tr) env f f2 (bd (bd ma (mUpd get put gApp)) fun _ => mr) eN := by
  intro as σ F H b S o b' hm D q
  obtain ⟨_, b2, e2, hm⟩ := bd_some hm
  obtain ⟨x, b1, e1, e2⟩ := bd_some e2
  unfold mUpd at e2
  obtain ⟨l, e3, e4⟩ := Option.map_eq_some_iff.mp e2
  cases e4
  unfold gApp at e3
  split at e3
  · rename_i hlt
    cases e3
    obtain ⟨p, h1, h2, h3, h4, vs0, h5, _⟩ := S.at_ hi (hg b)
    refine ⟨.ref p, h2, .inl ⟨rfl, vs0, .of h5⟩, ?_⟩
    refine ha as σ F H b S x b1 e1 _ fun v F1 H1 n1 o1 r1 => ?_
    have S1 := S.step n1 o1
    obtain ⟨p', h1', h2', h3', h4', vs, h5', h6'⟩ := S1.at_ hi (hg b1)
    rw [h1] at h1'
    cases h1'
    refine ⟨p, vs, v, rfl, rfl, h5', by rw [← h6'.length, sizeLine_eq]; exact hlt, ?_⟩
    have n2 : Nx as F1 H1 F1 (upd H1 p (.lst (vs ++ [v]))) := Nx.mut n1.fh h4' h3'
    have o2 := o1.put (o := .lst (vs ++ [v])) (ow := ovL K (get b1 ++ [x])) h1 ⟨_, upd_same, h6'.app ⟨r1, trivial⟩⟩
    rw [← hp] at o2
    exact hr as σ F1 _ _ ⟨n2.fh, o2, S1.env⟩ o b' hm D ((q.step n1).step n2)
  · cases e3
/-- x.extend(e); the rest -/
def gExt {α : Type} (l : List α) (x : List α) : Option (List α) := if l.length + x.length ≤ line then some (l ++ x) else none
theorem ss_ext {i k : Nat} {te : TE} {tr : TS} {ma : M β β (List α)} {get : β → List α} {put : β → List α → β} {mr : M β β2 (Fl γ ρ)} (hi : env[i]? = some (.own k)) (hg : ∀ b, (f b)[k]? = some (ovL K (get b))) (hp : ∀ b l, f (put b l) = (f b).set k (ovL K l))
    (ha : Es K te env f ma) (hr : Ss K tr env f f2 mr eN) :
    Ss K (tSeq (tDrop (tBM K "list" rExtend (tVar i) (tCons te tNil))) tr) env f f2 (bd (bd ma (mUpd get put gExt)) fun _ => mr) eN := by
  intro as σ F H b S o b' hm D q
  obtain ⟨_, b2, e2, hm⟩ := bd_some hm
  obtain ⟨x, b1, e1, e2⟩ := bd_some e2
  unfold mUpd at e2
  obtain ⟨l, e3, e4⟩ := Option.map_eq_some_iff.mp e2
  cases e4
  unfold gExt at e3
  split at e3
  · rename_i hlt
    cases e3
    obtain ⟨p, h1, h2, h3, h4, vs0, h5, _⟩ := S.at_ hi (hg b)
    refine ⟨.ref p, h2, .inl ⟨rfl, vs0, .of h5⟩, ?_⟩
    refine ha as σ F H b S x b1 e1 _ fun v F1 H1 n1 o1 r1 => ?_
    have S1 := S.step n1 o1
    obtain ⟨p', h1', h2', h3', h4', vs, h5', h6'⟩ := S1.at_ hi (hg b1)
    rw [h1] at h1'
    cases h1'
    obtain ⟨z, ws, rfl, hz, rz⟩ := r1
    refine ⟨p, z, vs, ws, rfl, rfl, h5', n1.fh _ _ hz, by rw [← h6'.length, ← rz.length, sizeLine_eq]; exact hlt, ?_⟩
    have n2 : Nx as F1 H1 F1 (upd H1 p (.lst (vs ++ ws))) := Nx.mut n1.fh h4' h3'
    have o2 := o1.put (o := .lst (vs ++ ws)) (ow := ovL K (get b1 ++ x)) h1 ⟨_, upd_same, h6'.app rz⟩
    rw [← hp] at o2
    exact hr as σ F1 _ _ ⟨n2.fh, o2, S1.env⟩ o b' hm D ((q.step n1).step n2)
  · cases e3
def noOwn (k : Nat) : List Sl → Bool
  | [] => true
  | .own j :: r => !(j == k) && noOwn k r
  | _ :: r => noOwn k r
theorem noOwn_get {k : Nat} : ∀ {e : List Sl} (j : Nat), noOwn k e = true → e[j]? ≠ some (.own k)
  | [], j, _, h => by simp at h
  | s :: r, 0, h, q => by
    have e : s = .own k := by simpa using q
    subst e
    simp [noOwn] at h
  | s :: r, j + 1, h, q => by
    refine noOwn_get (e := r) j ?_ (by simpa using q)
    cases s with
    | own i => exact (Bool.and_eq_true_iff.mp h).2
    | un => exact h
    | dat p m => exact h
/-- an owned list is handed on for good: the last of all; what follows knows it as data -/
theorem ss_frz {t : TS} {i k : Nat} {m : List α → M β β2 (Fl γ ρ)} (hi : env[i]? = some (.own k)) (hk : ∀ b, (f b).length = k) (hno : noOwn k (env.set i .un) = true) (h2 : ∀ b, (f2 b).length ≤ k) (hr : ∀ l, Ss K t (env.set i (Sl.of K l)) f f2 (m l) eN) :
    Ss K t env (extF K f) f2 (frzM m) eN := by
  intro as σ F H b S o b' hm D q
  have hne : ∀ j, j ≠ i → env[j]? ≠ some (.own k) := fun j hj => by
    have := noOwn_get j hno
    rwa [List.getElem?_set_ne (Ne.symm hj)] at this
  have hlen : as.length = k + 1 := by
    rw [S.os.2.1]
    show (f b.1 ++ [ovL K b.2]).length = _
    rw [List.length_append, hk]
    rfl
  obtain ⟨p, h1, h2', h3, h4, vs, h5, h6⟩ := S.at_ (ow := ovL K b.2) hi (by show (f b.1 ++ [ovL K b.2])[k]? = _; rw [List.getElem?_append_right (by rw [hk]; exact Nat.le_refl _), hk, Nat.sub_self]; rfl)
  -- the others
  have ha : as = as.take k ++ [p] := by
    have hk' : k < as.length := by omega
    have e := List.take_append_drop k as
    rw [List.drop_eq_getElem_cons hk', List.drop_of_length_le (by omega)] at e
    have : as[k] = p := by
      rw [List.getElem?_eq_getElem hk'] at h1
      exact Option.some.inj h1
    rw [this] at e
    exact e.symm
  have hnp : p ∉ as.take k := by
    have nd := S.os.1
    rw [ha, List.nodup_append] at nd
    exact fun m => nd.2.2 p m p (by simp) rfl
  have o1 : OsOk (as.take k) (f b.1) F H := ⟨S.os.1.sublist (List.take_sublist _ _), by rw [List.length_take, hk]; omega, fun j a v g1 g2 => by
    have hj : j < k := by
      have := (List.getElem?_eq_some_iff.mp g2).1
      rw [hk] at this
      exact this
    rw [List.getElem?_take, if_pos hj] at g1
    exact S.os.2.2 j a v g1 (by show (f b.1 ++ [ovL K b.2])[j]? = _; rw [List.getElem?_append_left (by rw [hk]; exact hj)]; exact g2)⟩
  have nF : ∀ a u, upd F p (.lst vs) a = some u → H a = some u := fun a u h => by
    by_cases hh : a = p
    · subst hh
      rw [upd_same] at h
      rw [← h]
      exact h5
    · rw [upd_ne hh] at h
      exact S.ex a u h
  have ev : EnvOk (as.take k) (env.set i (Sl.of K b.2)) σ (upd F p (.lst vs)) := ⟨by rw [List.length_set]; exact S.env.1, fun j s e => by
    by_cases hj : i = j
    · subst hj
      by_cases hl : i < env.length
      · rw [List.getElem?_set_self hl] at e
        cases e
        exact ⟨.ref p, h2', p, vs, rfl, upd_same, h6.imp fun _ _ => Rep.mono (.new h3)⟩
      · rw [List.getElem?_eq_none (by rw [List.length_set]; omega)] at e
        cases e
    · rw [List.getElem?_set_ne hj] at e
      have z := (S.env.2 j s e).mono (F' := upd F p (.lst vs)) (.new h3)
      cases s with
      | un => trivial
      | dat r m => exact z
      | own k' =>
        obtain ⟨a, z1, z2⟩ := z
        have hk' : k' ≠ k := fun z => hne j (Ne.symm hj) (by rw [← z]; exact e)
        have hlt : k' < k := by
          have := (List.getElem?_eq_some_iff.mp z1).1
          omega
        exact ⟨a, by rw [List.getElem?_take, if_pos hlt]; exact z1, z2⟩⟩
  refine hr b.2 (as.take k) σ (upd F p (.lst vs)) H b.1 ⟨nF, o1.frz hnp h3, ev⟩ o b' hm D ?_
  have back : ∀ {F' H'}, Nx (as.take k) (upd F p (.lst vs)) H F' H' → Nx as F H F' H' := fun {F' H'} n => by
    have pas : p ∈ as := List.mem_of_getElem? h1
    have sub : ∀ x, x ∉ as → x ∉ as.take k := fun x h m => h (List.mem_of_mem_take m)
    exact ⟨(Ex.new h3).trans n.ff, n.fh, fun a u h e => n.keep a u (sub a h) e, fun a h e => by
      rw [n.old a (sub a h) e, upd_ne fun z => h (by rw [z]; exact pas)], n.there⟩
  have tk : ∀ b : β2, (as.take k).take (f2 b).length = as.take (f2 b).length := fun b => by
    rw [List.take_take, Nat.min_eq_left (h2 b)]
  cases o with
  | nx g => exact fun σ' F' H' n' S' => q σ' F' H' (back n') (by rw [← tk]; exact S')
  | bk g => exact fun σ' F' H' n' S' => q σ' F' H' (back n') (by rw [← tk]; exact S')
  | ct g => exact fun σ' F' H' n' S' => q σ' F' H' (back n') (by rw [← tk]; exact S')
  | rt r => exact fun v F' H' n' o' => q v F' H' (back n') (by rw [← tk]; exact o')
end
end Tw

namespace Tw
open PySem L2

/-! ### operations by values -/
section
variable {K : PySem.W.Frag}
/-! ints -/
abbrev gI (g : Int → Int → Int) : Int → Int → Option Int := fun x y => some (g x y)
abbrev gB (g : Int → Int → Bool) : Int → Int → Option Bool := fun x y => some (g x y)
theorem o2_I {g : Int → Int → Int} : Op2 K (rI0 fun i j => .int (g i j)) (gI g) := fun F H x y z v w ex e r1 r2 Q q => by
  cases e
  exact ⟨x, y, r1, r2, q _ F H (.refl ex) rfl⟩
theorem o2_B {g : Int → Int → Bool} : Op2 K (rI0 fun i j => .bl (g i j)) (gB g) := fun F H x y z v w ex e r1 r2 Q q => by
  cases e
  exact ⟨x, y, r1, r2, q _ F H (.refl ex) rfl⟩
theorem o2_add : Op2 K (rI0 fun i j => .int (i + j)) (gI (· + ·)) := o2_I
theorem o2_sub : Op2 K (rI0 fun i j => .int (i - j)) (gI (· - ·)) := o2_I
theorem o2_lt : Op2 K (rI0 fun i j => .bl (decide (i < j))) (gB fun i j => decide (i < j)) := o2_B
theorem o2_le : Op2 K (rI0 fun i j => .bl (decide (i ≤ j))) (gB fun i j => decide (i ≤ j)) := o2_B
theorem o2_gt : Op2 K (rI0 fun i j => .bl (decide (j < i))) (gB fun i j => decide (j < i)) := o2_B
theorem o2_ge : Op2 K (rI0 fun i j => .bl (decide (j ≤ i))) (gB fun i j => decide (j ≤ i)) := o2_B
def gMul (x y : Int) : Option Int := if (-(2 ^ 64) < x ∧ x < 2 ^ 64) ∨ (-(2 ^ 64) < y ∧ y < 2 ^ 64) then some (x * y) else none
theorem o2_mul : Op2 K (rI CMul fun i j => .int (i * j)) gMul := fun F H x y z v w ex e r1 r2 Q q => by
  unfold gMul at e
  split at e
  · rename_i h
    cases e
    exact ⟨x, y, r1, r2, h, q _ F H (.refl ex) rfl⟩
  · cases e
def gDiv (x y : Int) : Option Int := if 0 < y ∧ y < 1073741824 then some (x / y) else none
theorem o2_fdiv : Op2 K (rI CDiv fun i j => .int (i / j)) gDiv := fun F H x y z v w ex e r1 r2 Q q => by
  unfold gDiv at e
  split at e
  · rename_i h
    cases e
    exact ⟨x, y, r1, r2, h, q _ F H (.refl ex) rfl⟩
  · cases e
def gMod (x y : Int) : Option Int := if 0 < y then some (x % y) else none
theorem o2_mod : Op2 K (rI (fun _ j => 0 < j) fun i j => .int (i % j)) gMod := fun F H x y z v w ex e r1 r2 Q q => by
  unfold gMod at e
  split at e
  · rename_i h
    cases e
    exact ⟨x, y, r1, r2, h, q _ F H (.refl ex) rfl⟩
  · cases e
def gPow (x y : Int) : Option Int := if 0 ≤ y ∧ y ≤ 1000000 ∧ x.natAbs < 2 ^ 64 then some (x ^ y.toNat) else none
theorem o2_pow : Op2 K (rI CPow fun i j => .int (i ^ j.toNat)) gPow := fun F H x y z v w ex e r1 r2 Q q => by
  unfold gPow at e
  split at e
  · rename_i h
    cases e
    exact ⟨x, y, r1, r2, h, q _ F H (.refl ex) rfl⟩
  · cases e
/-! == of scalars -/
class ScV (α : Type) where
  ofV : α → V
instance : ScV Int := ⟨V.int⟩
instance : ScV Bool := ⟨V.bl⟩
instance : ScV Tx := ⟨fun x => V.str (tS x)⟩
instance : ScV Unit := ⟨fun _ => V.non⟩
instance {α : Type} [ScV α] : ScV (Option α) := ⟨fun x => match x with | none => .non | some y => ScV.ofV y⟩
class Sc (K : PySem.W.Frag) (α : Type) [Rep K α] [ScV α] : Prop where
  is : ∀ {F : Hp} {x : α} {v : V}, Rep.rp K F x v → v = ScV.ofV x
instance : Sc K Int := ⟨fun h => h⟩
instance : Sc K Bool := ⟨fun h => h⟩
instance : Sc K Tx := ⟨fun h => h⟩
instance : Sc K Unit := ⟨fun h => h⟩
instance {α : Type} [Rep K α] [ScV α] [Sc K α] : Sc K (Option α) := ⟨fun {F x v} h => by
  cases x with
  | none => exact h
  | some y => exact Sc.is (K := K) (α := α) h⟩
def gEqS {α γ : Type} [ScV α] [ScV γ] (x : α) (y : γ) : Option Bool := if scal (ScV.ofV x) (ScV.ofV y) = true then some (decide (ScV.ofV x = ScV.ofV y)) else none
def gNeS {α γ : Type} [ScV α] [ScV γ] (x : α) (y : γ) : Option Bool := if scal (ScV.ofV x) (ScV.ofV y) = true then some (!decide (ScV.ofV x = ScV.ofV y)) else none
theorem o2_eqS {α γ : Type} [Rep K α] [Rep K γ] [ScV α] [ScV γ] [Sc K α] [Sc K γ] : Op2 K (α := α) (γ := γ) rEq gEqS := fun F H x y z v w ex e r1 r2 Q q => by
  unfold gEqS at e
  rw [Sc.is r1, Sc.is r2]
  split at e
  · rename_i h
    cases e
    exact ⟨h, q _ F H (.refl ex) rfl⟩
  · cases e
theorem o2_neS {α γ : Type} [Rep K α] [Rep K γ] [ScV α] [ScV γ] [Sc K α] [Sc K γ] : Op2 K (α := α) (γ := γ) rNe gNeS := fun F H x y z v w ex e r1 r2 Q q => by
  unfold gNeS at e
  rw [Sc.is r1, Sc.is r2]
  split at e
  · rename_i h
    cases e
    exact ⟨h, q _ F H (.refl ex) rfl⟩
  · cases e
theorem V_str_eq {x y : Tx} : V.str (tS x) = V.str (tS y) ↔ x = y := ⟨fun h => tS_inj (V.str.inj h), fun h => by rw [h]⟩
@[simp] theorem gEqS_int (x y : Int) : gEqS x y = some (decide (x = y)) := by
  show some (decide (V.int x = V.int y)) = _
  exact congrArg some (decide_eq_decide.mpr ⟨fun h => V.int.inj h, fun h => by rw [h]⟩)
@[simp] theorem gEqS_tx (x y : Tx) : gEqS x y = some (decide (x = y)) := by
  show some (decide (V.str (tS x) = V.str (tS y))) = _
  exact congrArg some (decide_eq_decide.mpr V_str_eq)
@[simp] theorem gEqS_bl (x y : Bool) : gEqS x y = some (decide (x = y)) := by
  show some (decide (V.bl x = V.bl y)) = _
  exact congrArg some (decide_eq_decide.mpr ⟨fun h => V.bl.inj h, fun h => by rw [h]⟩)
@[simp] theorem gEqS_otx (x : Option Tx) (y : Tx) : gEqS x y = some (decide (x = some y)) := by
  cases x with
  | none => rfl
  | some z =>
    show some (decide (V.str (tS z) = V.str (tS y))) = _
    exact congrArg some (decide_eq_decide.mpr (V_str_eq.trans ⟨fun h => by rw [h], fun h => Option.some.inj h⟩))
@[simp] theorem gNeS_int (x y : Int) : gNeS x y = some (!decide (x = y)) := by
  show some (!decide (V.int x = V.int y)) = _
  exact congrArg (fun b => some (!b)) (decide_eq_decide.mpr ⟨fun h => V.int.inj h, fun h => by rw [h]⟩)
@[simp] theorem gNeS_tx (x y : Tx) : gNeS x y = some (!decide (x = y)) := by
  show some (!decide (V.str (tS x) = V.str (tS y))) = _
  exact congrArg (fun b => some (!b)) (decide_eq_decide.mpr V_str_eq)
@[simp] theorem gNeS_bl (x y : Bool) : gNeS x y = some (!decide (x = y)) := by
  show some (!decide (V.bl x = V.bl y)) = _
  exact congrArg (fun b => some (!b)) (decide_eq_decide.mpr ⟨fun h => V.bl.inj h, fun h => by rw [h]⟩)
/-! is None, is not None -/
def rIsNon : R2 := fun x y H Q => y = .non ∧ Q (.bl (decide (x = .non))) H
def rNotNon : R2 := fun x y H Q => y = .non ∧ Q (.bl (!decide (x = .non))) H
theorem opIsNon {X : Cx} : OpR X (compareOp .Is) rIsNon := op_isN
theorem opNotNon {X : Cx} : OpR X (compareOp .IsNot) rNotNon := op_notN
class NN (K : PySem.W.Frag) (α : Type) [Rep K α] where
  nn : ∀ {F : Hp} {x : α} {v : V}, Rep.rp K F x v → v ≠ .non
instance : NN K Int := ⟨fun {F x v} h => by have h' : v = .int x := h; rw [h']; exact nofun⟩
instance : NN K Bool := ⟨fun {F x v} h => by have h' : v = .bl x := h; rw [h']; exact nofun⟩
instance : NN K Tx := ⟨fun {F x v} h => by have h' : v = .str (tS x) := h; rw [h']; exact nofun⟩
instance {α : Type} [Rep K α] : NN K (List α) := ⟨fun {F x v} ⟨p, vs, h, _⟩ => by rw [h]; exact nofun⟩
instance {α γ : Type} [Rep K α] [Rep K γ] : NN K (α × γ) := ⟨fun {F x v} ⟨p, _, _, h, _⟩ => by rw [h]; exact nofun⟩
instance {α γ δ : Type} [Rep K α] [Rep K γ] [Rep K δ] : NN K (T3 α γ δ) := ⟨fun {F x v} ⟨p, _, _, _, h, _⟩ => by rw [h]; exact nofun⟩
instance {α γ : Type} [Rep K α] [Rep K γ] [NN K α] [NN K γ] : NN K (α ⊕ γ) := ⟨fun {F x v} h => by
  cases x with
  | inl y => exact NN.nn (K := K) (α := α) h
  | inr y => exact NN.nn (K := K) (α := γ) h⟩
theorem o2_isN {α : Type} [Rep K α] [NN K α] : Op2 K (α := Option α) (γ := Unit) rIsNon (fun x _ => some x.isNone) := fun F H x y z v w ex e r1 r2 Q q => by
  cases e
  refine ⟨r2, q _ F H (.refl ex) ?_⟩
  cases x with
  | none =>
    have r1' : v = .non := r1
    subst r1'
    rfl
  | some a =>
    show V.bl _ = V.bl false
    rw [decide_eq_false (NN.nn (K := K) (α := α) r1)]
theorem o2_notN {α : Type} [Rep K α] [NN K α] : Op2 K (α := Option α) (γ := Unit) rNotNon (fun x _ => some x.isSome) := fun F H x y z v w ex e r1 r2 Q q => by
  cases e
  refine ⟨r2, q _ F H (.refl ex) ?_⟩
  cases x with
  | none =>
    have r1' : v = .non := r1
    subst r1'
    rfl
  | some a =>
    show V.bl _ = V.bl true
    rw [decide_eq_false (NN.nn (K := K) (α := α) r1)]
    rfl
/-! texts -/
def rAddS : R2 := fun x y H Q => ∃ i j, x = .str i ∧ y = .str j ∧ i.length + j.length ≤ sizeLine ∧ Q (.str (i ++ j)) H
theorem opAddS {X : Cx} : OpR X (binaryOp .Add) rAddS := op_add_str
def gCat {α : Type} (x y : List α) : Option (List α) := if x.length + y.length ≤ line then some (x ++ y) else none
theorem gCat_ok {α : Type} {x y : List α} (h : x.length + y.length ≤ line) : gCat x y = some (x ++ y) := if_pos h
theorem o2_addS : Op2 K (α := Tx) (γ := Tx) (δ := Tx) rAddS gCat := fun F H x y z v w ex e r1 r2 Q q => by
  unfold gCat at e
  split at e
  · rename_i h
    cases e
    refine ⟨tS x, tS y, r1, r2, by rw [tS_len, tS_len, sizeLine_eq]; exact h, q _ F H (.refl ex) ?_⟩
    rw [tS_app]
    rfl
  · cases e
def rMulS : R2 := fun x y H Q => ∃ z i, x = .str z ∧ y = .int i ∧ PySem.MulOk z i ∧ Q (.str (Txt.mul z i)) H
theorem opMulS {X : Cx} : OpR X (binaryOp .Mult) rMulS := by
  intro pins s σ H x y v u Q I rx ry h
  obtain ⟨z, i, rfl, rfl, hm, q⟩ := h
  obtain ⟨t, rfl⟩ := rx
  obtain ⟨t', rfl⟩ := ry
  exact PySem.SB.mul hm fun t' k => ⟨.str _, H, I.tok _, ⟨_, rfl⟩, q⟩
def gRep {α : Type} (x : List α) (n : Int) : Option (List α) := if -(2 ^ 63) ≤ n ∧ n < 2 ^ 63 ∧ x.length * n.toNat ≤ line then some (List.replicate n.toNat x).flatten else none
theorem tooLong_of {n : Nat} (h : n ≤ line) : PySem.Builtin.Str.tooLong n = false := by
  unfold PySem.Builtin.Str.tooLong
  exact decide_eq_false (by rw [sizeLine_eq]; exact Nat.not_lt.mpr h)
theorem foldl_app : ∀ (l : List (Array Nat)) (a : Array Nat), l.foldl (· ++ ·) a = (a.toList ++ (l.map (·.toList)).flatten).toArray
  | [], a => by simp
  | x :: l, a => by
    rw [List.foldl_cons, foldl_app l (a ++ x)]
    simp
theorem o2_mulS : Op2 K (α := Tx) (γ := Int) (δ := Tx) rMulS gRep := fun F H x y z v w ex e r1 r2 Q q => by
  unfold gRep at e
  split at e
  · rename_i h
    obtain ⟨h1, h2, h3⟩ := h
    cases e
    refine ⟨tS x, y, r1, r2, ⟨?_, ?_, ?_⟩, q _ F H (.refl ex) ?_⟩
    · have e1 : decide (y < -(2 ^ 63 : Int)) = false := decide_eq_false (by omega)
      have e2 : decide (y ≥ 2 ^ 63) = false := decide_eq_false (by omega)
      rw [e1, e2]
      rfl
    · intro h4 h5 h6
      have h7 : x.length ≤ line := by
        refine Nat.le_trans ?_ h3
        exact Nat.le_mul_of_pos_right _ (by omega)
      rw [tS_len] at h6 h5
      have h8 : (2 : Int) ≤ y := by
        have : (y == 1) = false := by
          cases hh : (y == 1) with
          | false => rfl
          | true => rw [hh] at h5; cases h5
        have : y ≠ 1 := beq_eq_false_iff_ne.mp this
        omega
      have h9 : y.toNat ≤ line ∨ x.length = 0 := by
        by_cases hx : x.length = 0
        · exact .inr hx
        · exact .inl (Nat.le_trans (Nat.le_mul_of_pos_left _ (by omega)) h3)
      have hx : x.length ≠ 0 := beq_eq_false_iff_ne.mp (Bool.or_eq_false_iff.mp h5).2
      have h10 : y.toNat ≤ 16777216 := h9.resolve_right hx
      have h11 : (x.length : Int) * y ≤ 16777216 := by
        have : (y.toNat : Int) = y := Int.toNat_of_nonneg (by omega)
        rw [← this, ← Int.natCast_mul]
        exact Int.ofNat_le.mpr h3
      have : ((x.length : Int)) ≤ (2 ^ 63 - 1) / y := by
        rw [Int.le_ediv_iff_mul_le (by omega)]
        omega
      omega
    · intro _ _
      rw [tS_len]
      exact tooLong_of h3
    · show V.str (Txt.mul (tS x) y) = V.str (tS _)
      congr 1
      unfold Txt.mul
      by_cases h4 : y < 1
      · rw [if_pos h4]
        have : y.toNat = 0 := by omega
        rw [this]
        rfl
      · rw [if_neg h4]
        by_cases h5 : (y == 1 || (tS x).length == 0) = true
        · rw [if_pos h5]
          rcases Bool.or_eq_true_iff.mp h5 with h6 | h6
          · have : y = 1 := eq_of_beq h6
            rw [this]
            simp
          · rw [tS_len] at h6
            have : x.length = 0 := eq_of_beq h6
            have hx : x = [] := List.length_eq_zero_iff.mp this
            subst hx
            have : (List.replicate y.toNat ([] : List Nat)).flatten = [] := List.flatten_eq_nil_iff.mpr fun l hl => (List.mem_replicate.mp hl).2
            rw [this]
        · rw [if_neg h5]
          unfold tS
          congr 1
          rw [foldl_app]
          simp
  · cases e
/-! places -/
def rIxStr : R2 := rIxS
def gIxS (x : Tx) (i : Int) : Option Tx := if x.length ≤ line then (atI x i).map fun c => [c] else none
theorem o2_ixS : Op2 K (α := Tx) (γ := Int) (δ := Tx) rIxS gIxS := fun F H x y z v w ex e r1 r2 Q q => by
  unfold gIxS at e
  split at e
  · rename_i h
    obtain ⟨c, hc, rfl⟩ := Option.map_eq_some_iff.mp e
    exact ⟨tS x, y, c, r1, r2, by rw [tS_len, sizeLine_eq]; exact h, by rw [tS_cps]; exact hc, q _ F H (.refl ex) rfl⟩
  · cases e
theorem RpAll.atI {α : Type} {r : α → V → Prop} {xs : List α} {vs : List V} {i : Int} {x : α} (h : RpAll r xs vs) (e : L2.atI xs i = some x) : ∃ v, L2.atI vs i = some v ∧ r x v := by
  unfold L2.atI at e ⊢
  rw [← h.length]
  obtain ⟨j, h1, h2⟩ := Option.bind_eq_some_iff.mp e
  rw [h1]
  exact h.get' h2
theorem o2_ixL {α : Type} [Rep K α] : Op2 K (α := List α) (γ := Int) (rIxL K) (fun x i => atI x i) := fun F H x y z v w ex e r1 r2 Q q => by
  obtain ⟨p, vs, rfl, h2, h3⟩ := r1
  obtain ⟨u, hu, ru⟩ := h3.atI e
  exact ⟨p, vs, y, u, rfl, r2, .of (ex _ _ h2), hu, q _ F H (.refl ex) ru⟩
def gK {α : Type} (g : α) (k j : Int) : Option α := if j = k then some g else none
theorem o2_ix0 {α γ : Type} [Rep K α] [Rep K γ] : Op2 K (α := α × γ) (γ := Int) (rIxT K) (fun x i => gK x.1 0 i) := fun F H x y z v w ex e r1 r2 Q q => by
  obtain ⟨p, a, b, rfl, h2, h3, h4⟩ := r1
  simp only [gK] at e
  split at e
  · subst_vars
    cases e
    exact ⟨p, _, 0, a, rfl, rfl, ex.sqT h2, rfl, q _ F H (.refl ex) h3⟩
  · cases e
theorem o2_ix1 {α γ : Type} [Rep K α] [Rep K γ] : Op2 K (α := α × γ) (γ := Int) (rIxT K) (fun x i => gK x.2 1 i) := fun F H x y z v w ex e r1 r2 Q q => by
  obtain ⟨p, a, b, rfl, h2, h3, h4⟩ := r1
  simp only [gK] at e
  split at e
  · subst_vars
    cases e
    exact ⟨p, _, 1, b, rfl, rfl, ex.sqT h2, rfl, q _ F H (.refl ex) h4⟩
  · cases e
theorem o2_ix30 {α γ δ : Type} [Rep K α] [Rep K γ] [Rep K δ] : Op2 K (α := T3 α γ δ) (γ := Int) (rIxT K) (fun x i => gK x.a 0 i) := fun F H x y z v w ex e r1 r2 Q q => by
  obtain ⟨p, a, b, c, rfl, h2, h3, h4, h5⟩ := r1
  simp only [gK] at e
  split at e
  · subst_vars
    cases e
    exact ⟨p, _, 0, a, rfl, rfl, ex.sqT h2, rfl, q _ F H (.refl ex) h3⟩
  · cases e
theorem o2_ix31 {α γ δ : Type} [Rep K α] [Rep K γ] [Rep K δ] : Op2 K (α := T3 α γ δ) (γ := Int) (rIxT K) (fun x i => gK x.b 1 i) := fun F H x y z v w ex e r1 r2 Q q => by
  obtain ⟨p, a, b, c, rfl, h2, h3, h4, h5⟩ := r1
  simp only [gK] at e
  split at e
  · subst_vars
    cases e
    exact ⟨p, _, 1, b, rfl, rfl, ex.sqT h2, rfl, q _ F H (.refl ex) h4⟩
  · cases e
theorem o2_ix32 {α γ δ : Type} [Rep K α] [Rep K γ] [Rep K δ] : Op2 K (α := T3 α γ δ) (γ := Int) (rIxT K) (fun x i => gK x.c 2 i) := fun F H x y z v w ex e r1 r2 Q q => by
  obtain ⟨p, a, b, c, rfl, h2, h3, h4, h5⟩ := r1
  simp only [gK] at e
  split at e
  · subst_vars
    cases e
    exact ⟨p, _, 2, c, rfl, rfl, ex.sqT h2, rfl, q _ F H (.refl ex) h5⟩
  · cases e
/-! lists -/
theorem o2_cat {α : Type} [Rep K α] : Op2 K (α := List α) (γ := List α) (δ := List α) rCat gCat := fun F H x y z v w ex e r1 r2 Q q => by
  unfold gCat at e
  split at e
  · rename_i h
    cases e
    obtain ⟨p, vs, rfl, h2, h3⟩ := r1
    obtain ⟨p', ws, rfl, h2', h3'⟩ := r2
    refine ⟨p, p', vs, ws, rfl, rfl, ex _ _ h2, ex _ _ h2', by rw [← h3.length, ← h3'.length, sizeLine_eq]; exact h, fun c hc => ?_⟩
    have n := Nx.new (o := .lst (vs ++ ws)) ex hc
    exact q _ _ _ n ⟨c, _, rfl, upd_same, (h3.imp fun _ _ => Rep.mono n.ff).app (h3'.imp fun _ _ => Rep.mono n.ff)⟩
  · cases e
theorem o2_rep {α : Type} [Rep K α] : Op2 K (α := List α) (γ := Int) (δ := List α) rRep gRep := fun F H x y z v w ex e r1 r2 Q q => by
  unfold gRep at e
  split at e
  · rename_i h
    obtain ⟨g1, g2, g3⟩ := h
    cases e
    obtain ⟨p, vs, rfl, h2, h3⟩ := r1
    refine ⟨p, y, vs, rfl, r2, ex _ _ h2, g1, g2, by rw [← h3.length, sizeLine_eq]; exact g3, fun c hc => ?_⟩
    have n := Nx.new (o := .lst (List.replicate y.toNat vs).flatten) ex hc
    exact q _ _ _ n ⟨c, _, rfl, upd_same, (h3.imp fun _ _ => Rep.mono n.ff).rep _⟩
  · cases e
/-! slices -/
variable {β : Type} {env : List Sl} {f : β → List OV}
def Eo (to : TO) (env : List Sl) (f : β → List OV) (m : M β β (Option Int)) : Prop :=
  ∀ (as : List Addr) (σ : St) (F H : Hp) (b : β), Stt as env (f b) σ F H → ∀ (x : Option Int) (b' : β), m b = some (x, b') → ∀ Q : Option Int → Hp → Prop, (∀ F' H', Nx as F H F' H' → OsOk as (f b') F' H' → Q x H') → to σ H Q
theorem eo_none : Eo tNoPart env f (pu none) := by
  intro as σ F H b S x b' hm Q q
  obtain ⟨rfl, rfl⟩ := pu_some hm
  exact q F H (.refl S.ex) S.os
theorem eo_some {te : TE} {m : M β β Int} (h : Es K te env f m) : Eo (tPart te) env f (mMap some m) := by
  intro as σ F H b S x b' hm Q q
  obtain ⟨x', b1, e1, hm⟩ := bd_some hm
  obtain ⟨rfl, rfl⟩ := pu_some hm
  exact h as σ F H b S x' b1 e1 _ fun v F1 H1 n1 o1 r1 => ⟨x', r1, q F1 H1 n1 o1⟩
def cut {α : Type} (x : List α) (lo hi : Option Int) : List α := (x.drop (HT.sIx x.length 0 lo)).take (HT.sIx x.length x.length hi - HT.sIx x.length 0 lo)
def Sl3 (K : PySem.W.Frag) {α : Type} [Rep K α] (r : V → Option Int → Option Int → Hp → VK → Prop) (g : α → Option Int → Option Int → Option α) : Prop :=
  ∀ (F H : Hp) (x : α) (lo hi : Option Int) (z : α) (v : V), Ex F H → g x lo hi = some z → Rep.rp K F x v → ∀ Q : VK, (∀ u F' H', Nx [] F H F' H' → Rep.rp K F' z u → Q u H') → r v lo hi H Q
def gCut {α : Type} (x : List α) (lo hi : Option Int) : Option (List α) := if x.length ≤ line then some (cut x lo hi) else none
theorem RpAll.cut {α : Type} {r : α → V → Prop} {xs : List α} {vs : List V} (h : RpAll r xs vs) (lo hi : Option Int) : RpAll r (Tw.cut xs lo hi) (cutV vs lo hi) := by
  unfold Tw.cut cutV
  rw [← h.length]
  exact (h.drop _).take _
theorem sl3_L {α : Type} [Rep K α] : Sl3 K (α := List α) (rSlL K) (fun x lo hi => some (cut x lo hi)) := fun F H x lo hi z v ex e r1 Q q => by
  cases e
  obtain ⟨p, vs, rfl, h2, h3⟩ := r1
  refine ⟨p, vs, rfl, .of (ex _ _ h2), fun c hc => ?_⟩
  have n := Nx.new (o := .lst (cutV vs lo hi)) ex hc
  exact q _ _ _ n ⟨c, _, rfl, upd_same, (h3.cut lo hi).imp fun _ _ => Rep.mono n.ff⟩
theorem sl3_S : Sl3 K (α := Tx) rSlS gCut := fun F H x lo hi z v ex e r1 Q q => by
  unfold gCut at e
  split at e
  · rename_i h
    cases e
    refine ⟨tS x, r1, by rw [tS_len, sizeLine_eq]; exact h, q _ F H (.refl ex) ?_⟩
    show V.str (cutS (tS x) lo hi) = V.str (tS (cut x lo hi))
    unfold cutS cut tS
    simp [Str.length]
  · cases e
def mSl {α : Type} (g : α → Option Int → Option Int → Option α) (m : M β β α) (ml mh : M β β (Option Int)) : M β β α := bd m fun x => bd ml fun lo => bd mh fun hi => ov (g x lo hi)
theorem es_slice {α : Type} [Rep K α] {r : V → Option Int → Option Int → Hp → VK → Prop} {g : α → Option Int → Option Int → Option α} (hg : Sl3 K r g) {te : TE} {tl th : TO} {m : M β β α} {ml mh : M β β (Option Int)} (h : Es K te env f m) (hl : Eo tl env f ml) (hh : Eo th env f mh) :
    Es K (tSl r te tl th) env f (mSl g m ml mh) := by
  intro as σ F H b S z b' hm Q q
  obtain ⟨x, b1, e1, hm⟩ := bd_some hm
  obtain ⟨lo, b2, e2, hm⟩ := bd_some hm
  obtain ⟨hi, b3, e3, hm⟩ := bd_some hm
  obtain ⟨e4, rfl⟩ := ov_some hm
  refine h as σ F H b S x b1 e1 _ fun v F1 H1 n1 o1 r1 => ?_
  have S1 := S.step n1 o1
  refine hl as σ F1 H1 b1 S1 lo b2 e2 _ fun F2 H2 n2 o2 => ?_
  have S2 := S1.step n2 o2
  refine hh as σ F2 H2 b2 S2 hi b' e3 _ fun F3 H3 n3 o3 => ?_
  exact hg F3 H3 x lo hi z v n3.fh e4 (Rep.mono (n2.ff.trans n3.ff) r1) Q fun u F4 H4 n4 r4 => q u F4 H4 (((n1.trans n2).trans n3).trans n4.nil) (o3.step n4) r4
/-! calls of what is built in -/
def rMin2 : List V → Hp → VK → Prop := fun xs H Q => ∃ i j, xs = [.int i, .int j] ∧ Q (.int (if j < i then j else i)) H
theorem callMin2 {X : Cx} (hc : X.calm = true) : CallR X (.builtin "min") rMin2 := call_min2 hc
theorem cl_min2 : Cl K (α := Int × Int × Unit) (γ := Int) rMin2 (fun x => some (if x.2.1 < x.1 then x.2.1 else x.1)) := fun F H x z vs ex e ra Q q => by
  cases e
  obtain ⟨v, _, rfl, r1, w, _, rfl, r2, rfl⟩ := ra
  have r1' : v = .int x.1 := r1
  have r2' : w = .int x.2.1 := r2
  subst r1' r2'
  exact ⟨x.1, x.2.1, rfl, q _ F H (.refl ex) rfl⟩
def rAbs : List V → Hp → VK → Prop := fun xs H Q => ∃ i, xs = [.int i] ∧ Q (.int (if i < 0 then -i else i)) H
theorem callAbs {X : Cx} : CallR X (.builtin "abs") rAbs := call_abs
theorem cl_abs : Cl K (α := Int × Unit) (γ := Int) rAbs (fun x => some (if x.1 < 0 then -x.1 else x.1)) := fun F H x z vs ex e ra Q q => by
  cases e
  obtain ⟨v, _, rfl, r1, rfl⟩ := ra
  have r1' : v = .int x.1 := r1
  subst r1'
  exact ⟨x.1, rfl, q _ F H (.refl ex) rfl⟩
def rInt1 : List V → Hp → VK → Prop := fun xs H Q => (∃ i, xs = [.int i] ∧ Q (.int i) H) ∨ ∃ k, xs = [.bl k] ∧ Q (.int (if k then 1 else 0)) H
theorem callInt1 {X : Cx} : CallR X (.type "int") rInt1 := call_int1
theorem cl_intI : Cl K (α := Int × Unit) (γ := Int) rInt1 (fun x => some x.1) := fun F H x z vs ex e ra Q q => by
  cases e
  obtain ⟨v, _, rfl, r1, rfl⟩ := ra
  have r1' : v = .int x.1 := r1
  subst r1'
  exact .inl ⟨x.1, rfl, q _ F H (.refl ex) rfl⟩
theorem cl_intB : Cl K (α := Bool × Unit) (γ := Int) rInt1 (fun x => some (if x.1 = true then 1 else 0)) := fun F H x z vs ex e ra Q q => by
  cases e
  obtain ⟨v, _, rfl, r1, rfl⟩ := ra
  have r1' : v = .bl x.1 := r1
  subst r1'
  exact .inr ⟨x.1, rfl, q _ F H (.refl ex) rfl⟩
def rStrI : List V → Hp → VK → Prop := fun xs H Q => ∃ i, xs = [.int i] ∧ i.natAbs.log2 < 1920 ∧ Q (.str (toString i)) H
def rLenQ (K : PySem.W.Frag) : List V → Hp → VK → Prop := fun xs H Q => ∃ p ys, xs = [.ref p] ∧ (SqL K H p ys ∨ SqT K H p ys) ∧ Q (.int ys.length) H
def rLenT : List V → Hp → VK → Prop := fun xs H Q => ∃ z, xs = [.str z] ∧ z.length ≤ sizeLine ∧ Q (.int z.length) H
theorem callLenQ {X : Cx} : CallR X (.builtin "len") (rLenQ X.K) := call_len_seq
theorem callLenT {X : Cx} : CallR X (.builtin "len") rLenT := call_len_str
theorem cl_lenL {α : Type} [Rep K α] : Cl K (α := List α × Unit) (γ := Int) (rLenQ K) (fun x => some (x.1.length : Int)) := fun F H x z vs ex e ra Q q => by
  cases e
  obtain ⟨v, _, rfl, ⟨p, ws, rfl, h2, h3⟩, rfl⟩ := ra
  refine ⟨p, ws, rfl, .inl (.of (ex _ _ h2)), q _ F H (.refl ex) ?_⟩
  show V.int _ = V.int _
  rw [h3.length]
def gLenT (x : Tx × Unit) : Option Int := if x.1.length ≤ line then some (x.1.length : Int) else none
theorem cl_lenT : Cl K (α := Tx × Unit) (γ := Int) rLenT gLenT := fun F H x z vs ex e ra Q q => by
  unfold gLenT at e
  split at e
  · rename_i h
    cases e
    obtain ⟨v, _, rfl, r1, rfl⟩ := ra
    have r1' : v = .str (tS x.1) := r1
    subst r1'
    refine ⟨tS x.1, rfl, by rw [tS_len, sizeLine_eq]; exact h, q _ F H (.refl ex) ?_⟩
    show V.int _ = V.int _
    rw [tS_len]
  · cases e
/-! join -/
def rJoin (K : PySem.W.Frag) : V → List V → Hp → VK → Prop := fun x xs H Q => ∃ a p, ∃ ys : List Str, x = .str a ∧ xs = [.ref p] ∧ (SqL K H p (ys.map V.str) ∨ SqT K H p (ys.map V.str)) ∧
    (ys.map (·.length)).sum + ys.length * a.length ≤ 16777216 ∧ Q (.str (Txt.join a ys)) H
theorem mtJoin {X : Cx} : MtR X "str.join" (rJoin X.K) := mt_join
/-- e.join(list), e written and empty -/
def gJoin (x : Tx) (y : List Tx × Unit) : Option Tx := if x = [] ∧ (y.1.map (·.length)).sum ≤ line then some y.1.flatten else none
theorem join_foldl : ∀ (l : List Str) (a : Array Nat), (l.foldl (fun acc (p : Str) => acc ++ (#[] : Array Nat) ++ p.cps) a) = (a.toList ++ (l.map fun s => s.cps.toList).flatten).toArray
  | [], a => by simp
  | s :: l, a => by
    rw [List.foldl_cons, join_foldl l]
    simp
theorem join_tx (ys : List Tx) : Txt.join (tS []) (ys.map tS) = tS ys.flatten := by
  unfold Txt.join Builtin.Str.glued
  show Str.mk _ = Str.mk _
  congr 1
  show List.foldl (fun acc (p : Str) => acc ++ (#[] : Array Nat) ++ p.cps) _ _ = _
  rw [join_foldl]
  cases ys with
  | nil => rfl
  | cons y ys =>
    simp [tS]
    congr 1
    congr 1
    have : ((fun s : Str => s.cps.toList) ∘ tS) = id := by
      funext x
      simp [tS]
    rw [this, List.map_id]
theorem rp_tx_all {F : Hp} : ∀ {xs : List Tx} {vs : List V}, RpAll (Rep.rp K F) xs vs → vs = (xs.map tS).map V.str
  | [], [], _ => rfl
  | x :: xs, v :: vs, h => by
    rw [rp_tx_all h.2, show v = V.str (tS x) from h.1]
    rfl
  | [], _ :: _, h => h.elim
  | _ :: _, [], h => h.elim
/-- a method of a text, by values -/
def Mt2 (K : PySem.W.Frag) {α γ δ : Type} [Rep K α] [RepA K γ] [Rep K δ] (T : String) (r : V → List V → Hp → VK → Prop) (g : α → γ → Option δ) : Prop :=
  (∀ (F H : Hp) (x : α) (v : V), Ex F H → Rep.rp K F x v → tyV K T v H) ∧ ∀ (F H : Hp) (x : α) (y : γ) (z : δ) (v : V) (vs : List V), Ex F H → g x y = some z → Rep.rp K F x v → RepA.ra K F y vs → ∀ Q : VK, (∀ u F' H', Nx [] F H F' H' → Rep.rp K F' z u → Q u H') → r v vs H Q
theorem es_bm {α γ δ : Type} [Rep K α] [RepA K γ] [Rep K δ] {T : String} {r : V → List V → Hp → VK → Prop} {g : α → γ → Option δ} (hg : Mt2 K T r g) {to : TE} {ta : TA} {m : M β β α} {ma : M β β γ} (h : Es K to env f m) (ha : Ea K ta env f [] ma) :
    Es K (tBM K T r to ta) env f (mOp g m ma) := by
  intro as σ F H b S z b' hm Q q
  obtain ⟨x, b1, e1, hm⟩ := bd_some hm
  obtain ⟨y, b2, e2, hm⟩ := bd_some hm
  obtain ⟨e3, rfl⟩ := ov_some hm
  refine h as σ F H b S x b1 e1 _ fun v F1 H1 n1 o1 r1 => ⟨hg.1 F1 H1 x v n1.fh r1, ?_⟩
  refine ha as σ F1 H1 b1 (S.step n1 o1) y b' e2 _ fun cs vs F2 H2 n2 o2 hl _ r2 => ?_
  have hcs : cs = [] := List.length_eq_zero_iff.mp hl
  subst hcs
  exact hg.2 F2 H2 x y z v vs n2.fh e3 (Rep.mono n2.ff r1) r2 Q fun u F3 H3 n3 r3 => q u F3 H3 ((n1.trans n2).trans n3.nil) (o2.step n3) r3
theorem mt2_join : Mt2 K (α := Tx) (γ := List Tx × Unit) (δ := Tx) "str" (rJoin K) gJoin := by
  refine ⟨fun F H x v ex r => ?_, fun F H x y z v vs ex e r1 r2 Q q => ?_⟩
  · have r' : v = .str (tS x) := r
    subst r'
    rfl
  · unfold gJoin at e
    split at e
    · rename_i h
      obtain ⟨hx, hz⟩ := h
      subst hx
      cases e
      obtain ⟨u, _, rfl, ⟨p, ws, rfl, h2, h3⟩, rfl⟩ := r2
      have r1' : v = .str (tS []) := r1
      subst r1'
      rw [rp_tx_all h3] at h2
      refine ⟨tS [], p, y.1.map tS, rfl, rfl, .inl (.of (ex _ _ h2)), ?_, q _ F H (.refl ex) ?_⟩
      · have e1 : (y.1.map tS).map (·.length) = y.1.map (·.length) := by
          rw [List.map_map]
          exact List.map_congr_left fun x _ => tS_len x
        rw [e1]
        simpa using hz
      · rw [join_tx]
        rfl
    · cases e
end
end Tw

namespace Tw
open PySem L2

/-! ### defs of the text -/
structure Raw (K : PySem.W.Frag) (mg : Str → Option Value) (x : Str) (ps : List Str) (st : Stmt) : Prop where
  ex : ∃ f fd, Fun K x x st f fd ∧ mg x = some (.ref f) ∧ PySem.W.keepIn K (.ref f) = true ∧ Binds K fd ps []
structure Df (P : Program) (w : World) (K : PySem.W.Frag) (mg : Str → Option Value) (base : Heap) (x : Str) (k : Nat) (ps : List Str) (sp : Sp) : Prop where
  ex : ∃ f fd, FnOk P w K mg base CX0 k f fd ps sp ∧ mg x = some (.ref f) ∧ PySem.W.keepIn K (.ref f) = true ∧ Binds K fd ps []
theorem Df.mono {P : Program} {w : World} {K : PySem.W.Frag} {mg : Str → Option Value} {base : Heap} {x : Str} {j k : Nat} {ps : List Str} {sp : Sp} (d : Df P w K mg base x j ps sp) (h : j ≤ k) : Df P w K mg base x k ps sp := by
  obtain ⟨f, fd, a, b, c, e⟩ := d.ex
  exact ⟨f, fd, a.mono h, b, c, e⟩
theorem Room.units1 {k : Nat} {A : Around} (r : Room (k + 1) A) : A.units + 65 < cLine := by
  have := r.un
  omega

/-! ### forms that the printer writes -/
section
variable {X : Cx} {a b : Expr} {ta tb : TE} {pos : Pos}
theorem pe_cmpN {op : CmpOp} {r : R2} (ho : OpR X (compareOp op) r) (ha : PE X a ta) (hb : PE X b tb) (h : op ≠ .In := by decide) (h2 : op ≠ .NotIn := by decide) : PE X (.Compare a [op] [b] pos) (tOp r ta tb) := pe_cmpR ho ha hb (nomark b h h2)
theorem pt_cmpN {op : CmpOp} {r : R2} (ho : OpR X (compareOp op) r) (ha : PE X a ta) (hb : PE X b tb) (h : op ≠ .In := by decide) (h2 : op ≠ .NotIn := by decide) : PT X (.Compare a [op] [b] pos) (tTest (tOp r ta tb)) := pt_cmpR ho ha hb (nomark b h h2)
theorem pe_cmpIn {op : CmpOp} {r : R2} (ho : OpR X (compareOp op) r) (ha : PE X a ta) (hb : PE X b tb) (hm : behindInMarks op b = false := by with_unfolding_all rfl) : PE X (.Compare a [op] [b] pos) (tOp r ta tb) := pe_cmpR ho ha hb hm
theorem pt_cmpIn {op : CmpOp} {r : R2} (ho : OpR X (compareOp op) r) (ha : PE X a ta) (hb : PE X b tb) (hm : behindInMarks op b = false := by with_unfolding_all rfl) : PT X (.Compare a [op] [b] pos) (tTest (tOp r ta tb)) := pt_cmpR ho ha hb hm
theorem pe_notV (ha : PE X a ta) : PE X (.UnaryOp .Not a pos) (tNotV ta) := pe_not ha
end
section
variable {K : PySem.W.Frag} {β : Type} {env : List Sl} {f : β → List OV}
theorem es_negc {i : Int} : Es K (tUn (rU fun i => .int (-i)) (tC (.int i))) env f (pu (-i)) := by
  intro as σ F H b S y b' hm Q q
  obtain ⟨rfl, rfl⟩ := pu_some hm
  exact ⟨i, rfl, q _ F H (.refl S.ex) S.os rfl⟩
theorem et_yes : Et tYes env f (pu true) := by
  intro as σ F H b S y b' hm Q q
  obtain ⟨rfl, rfl⟩ := pu_some hm
  exact q F H (.refl S.ex) S.os
def gMin2 (x : Int × Int × Unit) : Option Int := some (if x.2.1 < x.1 then x.2.1 else x.1)
def gAbs (x : Int × Unit) : Option Int := some (if x.1 < 0 then -x.1 else x.1)
def gIntB (x : Bool × Unit) : Option Int := some (if x.1 = true then 1 else 0)
def enumL {α : Type} (x : List α × Unit) : List (Int × α) := ((List.range x.1.length).map fun (k : Nat) => ((k : Int))).zip x.1
def gIsB (x y : Bool) : Option Bool := some (decide (x = y))
def gNotB (x y : Bool) : Option Bool := some (!decide (x = y))
theorem o2_isB : Op2 K (α := Bool) (γ := Bool) rIsB gIsB := fun F H x y z v w ex e r1 r2 Q q => by
  cases e
  exact ⟨x, y, r1, r2, q _ F H (.refl ex) rfl⟩
theorem o2_notB : Op2 K (α := Bool) (γ := Bool) rNotB gNotB := fun F H x y z v w ex e r1 r2 Q q => by
  cases e
  exact ⟨x, y, r1, r2, q _ F H (.refl ex) rfl⟩
theorem iop_addI {X : Cx} : PIp X .Add (rI0 fun i j => .int (i + j)) := fun pins s σ H x y v u Q I rx ry h => iop_add pins s σ H x y v u Q I rx ry h

/-! ### the script -/
structure Scr where
  ns : List Int
instance : Rep K Scr := ⟨fun F x v => ∃ a, v = .ref a ∧ SqL K F a (x.ns.map V.int), fun e ⟨a, h1, h2⟩ => ⟨a, h1, e.sqL h2⟩⟩
theorem atI_map {α γ : Type} {g : α → γ} {xs : List α} {i : Int} {x : α} (h : atI xs i = some x) : atI (xs.map g) i = some (g x) := by
  unfold atI at h ⊢
  rw [List.length_map]
  obtain ⟨j, h1, h2⟩ := Option.bind_eq_some_iff.mp h
  rw [h1]
  show (xs.map g)[j]? = _
  rw [List.getElem?_map, h2]
  rfl
theorem o2_ixScr : Op2 K (α := Scr) (γ := Int) (δ := Int) (rIxL K) (fun x i => atI x.ns i) := fun F H x y z v w ex e r1 r2 Q q => by
  obtain ⟨a, rfl, h⟩ := r1
  exact ⟨a, _, y, .int z, rfl, r2, ex.sqL h, atI_map e, q _ F H (.refl ex) rfl⟩
theorem cl_lenScr : Cl K (α := Scr × Unit) (γ := Int) (rLenQ K) (fun x => some (x.1.ns.length : Int)) := fun F H x z vs ex e ra Q q => by
  cases e
  obtain ⟨v, _, rfl, ⟨a, rfl, h⟩, rfl⟩ := ra
  refine ⟨a, _, rfl, .inl (ex.sqL h), q _ F H (.refl ex) ?_⟩
  show V.int _ = V.int _
  rw [List.length_map]

/-! ### equality of data -/
class EqD (α : Type) where
  pd : α → PyData
  ok : α → Bool
  dep : Nat
  depOk : ∀ x, (pd x).depth ≤ dep
  okOk : ∀ x, ok x = true → (pd x).canLay0 = true
class EqR (K : PySem.W.Frag) (α : Type) [Rep K α] [EqD α] : Prop where
  dp : ∀ {F : Hp} {x : α} {v : V}, Rep.rp K F x v → Dp K F v (EqD.pd x)
instance : EqD Int := ⟨.int, fun _ => true, 0, fun _ => by simp [PyData.depth], fun _ _ => by simp [PyData.canLay0]⟩
instance : EqD Bool := ⟨.bool, fun _ => true, 0, fun _ => by simp [PyData.depth], fun _ _ => by simp [PyData.canLay0]⟩
instance : EqD Unit := ⟨fun _ => .none, fun _ => true, 0, fun _ => by simp [PyData.depth], fun _ _ => by simp [PyData.canLay0]⟩
def okT (x : Tx) : Bool := x.all (· < 0x110000)
instance : EqD Tx := ⟨fun x => .str (tS x), okT, 0, fun _ => by simp [PyData.depth], fun x h => by
  simp only [PyData.canLay0, PyData.strOk]
  simpa [okT, tS] using h⟩
instance {α : Type} [EqD α] : EqD (Option α) := ⟨fun x => match x with | none => .none | some y => EqD.pd y, fun x => match x with | none => true | some y => EqD.ok y, EqD.dep α, fun x => by
  cases x with
  | none => simp [PyData.depth]
  | some y => exact EqD.depOk y, fun x h => by
  cases x with
  | none => simp [PyData.canLay0]
  | some y => exact EqD.okOk y h⟩
theorem depthAll_le {α : Type} [EqD α] : ∀ xs : List α, PyData.depthAll (xs.map EqD.pd) ≤ EqD.dep α
  | [] => by simp [PyData.depthAll]
  | x :: xs => by
    have h1 := EqD.depOk x
    have h2 := depthAll_le xs
    simp only [List.map_cons, PyData.depthAll]
    omega
theorem canLayAll_of {α : Type} [EqD α] : ∀ xs : List α, xs.all EqD.ok = true → PyData.canLayAll0 (xs.map EqD.pd) = true
  | [], _ => by simp [PyData.canLayAll0]
  | x :: xs, h => by
    simp only [List.all_cons, Bool.and_eq_true] at h
    simp only [List.map_cons, PyData.canLayAll0, EqD.okOk x h.1, canLayAll_of xs h.2, Bool.and_self]
instance {α : Type} [EqD α] : EqD (List α) := ⟨fun xs => .list (xs.map EqD.pd), fun xs => xs.all EqD.ok, EqD.dep α + 1, fun xs => by
  have := depthAll_le xs
  simp only [PyData.depth]
  omega, fun xs h => by
  simp only [PyData.canLay0]
  exact canLayAll_of xs h⟩
instance {α γ : Type} [EqD α] [EqD γ] : EqD (α × γ) := ⟨fun x => .tuple [EqD.pd x.1, EqD.pd x.2], fun x => EqD.ok x.1 && EqD.ok x.2, max (EqD.dep α) (EqD.dep γ) + 1, fun x => by
  have h1 := EqD.depOk x.1
  have h2 := EqD.depOk x.2
  simp only [PyData.depth, PyData.depthAll]
  omega, fun x h => by
  simp only [Bool.and_eq_true] at h
  simp only [PyData.canLay0, PyData.canLayAll0, EqD.okOk _ h.1, EqD.okOk _ h.2, Bool.and_self]⟩
instance {α γ δ : Type} [EqD α] [EqD γ] [EqD δ] : EqD (T3 α γ δ) := ⟨fun x => .tuple [EqD.pd x.a, EqD.pd x.b, EqD.pd x.c], fun x => EqD.ok x.a && (EqD.ok x.b && EqD.ok x.c), max (EqD.dep α) (max (EqD.dep γ) (EqD.dep δ)) + 1, fun x => by
  have h1 := EqD.depOk x.a
  have h2 := EqD.depOk x.b
  have h3 := EqD.depOk x.c
  simp only [PyData.depth, PyData.depthAll]
  omega, fun x h => by
  simp only [Bool.and_eq_true] at h
  simp only [PyData.canLay0, PyData.canLayAll0, EqD.okOk _ h.1, EqD.okOk _ h.2.1, EqD.okOk _ h.2.2, Bool.and_self]⟩
instance {α γ : Type} [EqD α] [EqD γ] : EqD (α ⊕ γ) := ⟨fun x => match x with | .inl y => EqD.pd y | .inr y => EqD.pd y, fun x => match x with | .inl y => EqD.ok y | .inr y => EqD.ok y, max (EqD.dep α) (EqD.dep γ), fun x => by
  cases x with
  | inl y => exact Nat.le_trans (EqD.depOk y) (Nat.le_max_left _ _)
  | inr y => exact Nat.le_trans (EqD.depOk y) (Nat.le_max_right _ _), fun x h => by
  cases x with
  | inl y => exact EqD.okOk y h
  | inr y => exact EqD.okOk y h⟩
instance : EqR K Int := ⟨fun {F x v} h => by rw [show v = .int x from h]; exact .int _⟩
instance : EqR K Bool := ⟨fun {F x v} h => by rw [show v = .bl x from h]; exact .bl _⟩
instance : EqR K Unit := ⟨fun {F x v} h => by rw [show v = .non from h]; exact .non⟩
instance : EqR K Tx := ⟨fun {F x v} h => by rw [show v = .str (tS x) from h]; exact .str _⟩
instance {α : Type} [Rep K α] [EqD α] [EqR K α] : EqR K (Option α) := ⟨fun {F x v} h => by
  cases x with
  | none => rw [show v = .non from h]; exact .non
  | some y => exact EqR.dp (K := K) (α := α) h⟩
theorem dpAll_of {α : Type} [Rep K α] [EqD α] [EqR K α] {F : Hp} : ∀ {xs : List α} {vs : List V}, RpAll (Rep.rp K F) xs vs → DpAll K F vs (xs.map EqD.pd)
  | [], [], _ => .nil
  | x :: xs, v :: vs, h => .cons (EqR.dp h.1) (dpAll_of h.2)
  | [], _ :: _, h => h.elim
  | _ :: _, [], h => h.elim
instance {α : Type} [Rep K α] [EqD α] [EqR K α] : EqR K (List α) := ⟨fun {F x v} h => by
  obtain ⟨p, vs, rfl, h2, h3⟩ := h
  exact .lst (.of h2) (dpAll_of h3)⟩
instance {α γ : Type} [Rep K α] [EqD α] [EqR K α] [Rep K γ] [EqD γ] [EqR K γ] : EqR K (α × γ) := ⟨fun {F x v} h => by
  obtain ⟨p, u, w, rfl, h2, h3, h4⟩ := h
  exact .tup h2 (.cons (EqR.dp h3) (.cons (EqR.dp h4) .nil))⟩
instance {α γ δ : Type} [Rep K α] [EqD α] [EqR K α] [Rep K γ] [EqD γ] [EqR K γ] [Rep K δ] [EqD δ] [EqR K δ] : EqR K (T3 α γ δ) := ⟨fun {F x v} h => by
  obtain ⟨p, u, w, z, rfl, h2, h3, h4, h5⟩ := h
  exact .tup h2 (.cons (EqR.dp h3) (.cons (EqR.dp h4) (.cons (EqR.dp h5) .nil)))⟩
instance {α γ : Type} [Rep K α] [EqD α] [EqR K α] [Rep K γ] [EqD γ] [EqR K γ] : EqR K (α ⊕ γ) := ⟨fun {F x v} h => by
  cases x with
  | inl y => exact EqR.dp (K := K) (α := α) h
  | inr y => exact EqR.dp (K := K) (α := γ) h⟩
mutual
theorem dp_mono {F H : Hp} (e : Ex F H) : ∀ {v : V} {d : PyData}, Dp K F v d → Dp K H v d
  | _, _, .non => .non
  | _, _, .bl b => .bl b
  | _, _, .int i => .int i
  | _, _, .str x => .str x
  | _, _, .lst h h2 => .lst (e.sqL h) (dpAll_mono e h2)
  | _, _, .tup h h2 => .tup (e.sqT h) (dpAll_mono e h2)
theorem dpAll_mono {F H : Hp} (e : Ex F H) : ∀ {v : List V} {d : List PyData}, DpAll K F v d → DpAll K H v d
  | _, _, .nil => .nil
  | _, _, .cons h h2 => .cons (dp_mono e h) (dpAll_mono e h2)
end
def gEqD {α γ : Type} [EqD α] [EqD γ] (x : α) (y : γ) : Option Bool := if EqD.ok x = true ∧ EqD.ok y = true ∧ EqD.dep α ≤ 64 ∧ EqD.dep γ ≤ 64 then some (PyData.eqv (EqD.pd x) (EqD.pd y)) else none
def gNeD {α γ : Type} [EqD α] [EqD γ] (x : α) (y : γ) : Option Bool := if EqD.ok x = true ∧ EqD.ok y = true ∧ EqD.dep α ≤ 64 ∧ EqD.dep γ ≤ 64 then some (!PyData.eqv (EqD.pd x) (EqD.pd y)) else none
theorem shaped_of {α : Type} [EqD α] {x : α} (h : EqD.ok x = true) (h2 : EqD.dep α ≤ 64) : SeqAt.shaped (EqD.pd x) = true := by
  unfold SeqAt.shaped
  rw [EqD.okOk x h, Bool.true_and]
  exact decide_eq_true (Nat.le_trans (EqD.depOk x) h2)
theorem o2_eqD {α γ : Type} [Rep K α] [EqD α] [EqR K α] [Rep K γ] [EqD γ] [EqR K γ] : Op2 K (α := α) (γ := γ) (rEqD K) gEqD := fun F H x y z v w ex e r1 r2 Q q => by
  unfold gEqD at e
  split at e
  · rename_i h
    cases e
    exact ⟨_, _, dp_mono ex (EqR.dp r1), dp_mono ex (EqR.dp r2), shaped_of h.1 h.2.2.1, shaped_of h.2.1 h.2.2.2, q _ F H (.refl ex) rfl⟩
  · cases e
theorem o2_neD {α γ : Type} [Rep K α] [EqD α] [EqR K α] [Rep K γ] [EqD γ] [EqR K γ] : Op2 K (α := α) (γ := γ) (rNeD K) gNeD := fun F H x y z v w ex e r1 r2 Q q => by
  unfold gNeD at e
  split at e
  · rename_i h
    cases e
    exact ⟨_, _, dp_mono ex (EqR.dp r1), dp_mono ex (EqR.dp r2), shaped_of h.1 h.2.2.1, shaped_of h.2.1 h.2.2.2, q _ F H (.refl ex) rfl⟩
  · cases e
/-! eqv is equality -/
class EqL (α : Type) [EqD α] : Prop where
  eqv : ∀ x y : α, PyData.eqv (EqD.pd x) (EqD.pd y) = true ↔ x = y
class NonN (α : Type) [EqD α] : Prop where
  nn : ∀ x : α, PyData.eqv .none (EqD.pd x) = false ∧ PyData.eqv (EqD.pd x) .none = false
instance : EqL Int := ⟨fun x y => by simp [EqD.pd, PyData.eqv]⟩
instance : EqL Bool := ⟨fun x y => by simp [EqD.pd, PyData.eqv]⟩
instance : EqL Unit := ⟨fun x y => by simp [EqD.pd, PyData.eqv]⟩
instance : EqL Tx := ⟨fun x y => by
  simp only [EqD.pd, PyData.eqv, beq_iff_eq]
  exact ⟨tS_inj, fun h => by rw [h]⟩⟩
instance : NonN Int := ⟨fun x => by simp [EqD.pd, PyData.eqv]⟩
instance : NonN Bool := ⟨fun x => by simp [EqD.pd, PyData.eqv]⟩
instance : NonN Tx := ⟨fun x => by simp [EqD.pd, PyData.eqv]⟩
instance {α : Type} [EqD α] : NonN (List α) := ⟨fun x => by simp [EqD.pd, PyData.eqv]⟩
instance {α γ : Type} [EqD α] [EqD γ] : NonN (α × γ) := ⟨fun x => by simp [EqD.pd, PyData.eqv]⟩
instance {α γ δ : Type} [EqD α] [EqD γ] [EqD δ] : NonN (T3 α γ δ) := ⟨fun x => by simp [EqD.pd, PyData.eqv]⟩
instance {α : Type} [EqD α] [EqL α] [NonN α] : EqL (Option α) := ⟨fun x y => by
  cases x with
  | none =>
    cases y with
    | none => simp [EqD.pd, PyData.eqv]
    | some y => simp [EqD.pd, (NonN.nn y).1]
  | some x =>
    cases y with
    | none => simp [EqD.pd, (NonN.nn x).2]
    | some y =>
      show PyData.eqv (EqD.pd x) (EqD.pd y) = true ↔ _
      rw [EqL.eqv, Option.some.injEq]⟩
theorem eqvAll_iff {α : Type} [EqD α] [EqL α] : ∀ xs ys : List α, PyData.eqvAll (xs.map EqD.pd) (ys.map EqD.pd) = true ↔ xs = ys
  | [], [] => by simp [PyData.eqvAll]
  | [], y :: ys => by simp [PyData.eqvAll]
  | x :: xs, [] => by simp [PyData.eqvAll]
  | x :: xs, y :: ys => by
    simp only [List.map_cons, PyData.eqvAll, Bool.and_eq_true, EqL.eqv, eqvAll_iff xs ys, List.cons.injEq]
instance {α : Type} [EqD α] [EqL α] : EqL (List α) := ⟨fun x y => by
  show PyData.eqv (.list _) (.list _) = true ↔ _
  simp only [PyData.eqv]
  exact eqvAll_iff x y⟩
instance {α γ : Type} [EqD α] [EqD γ] [EqL α] [EqL γ] : EqL (α × γ) := ⟨fun x y => by
  obtain ⟨a, b⟩ := x
  obtain ⟨c, d⟩ := y
  simp only [EqD.pd, PyData.eqv, PyData.eqvAll, Bool.and_true, Bool.and_eq_true, EqL.eqv, Prod.mk.injEq]⟩
instance {α γ δ : Type} [EqD α] [EqD γ] [EqD δ] [EqL α] [EqL γ] [EqL δ] : EqL (T3 α γ δ) := ⟨fun x y => by
  obtain ⟨a, b, e⟩ := x
  obtain ⟨c, d, g⟩ := y
  simp only [EqD.pd, PyData.eqv, PyData.eqvAll, Bool.and_true, Bool.and_eq_true, EqL.eqv, T3.mk.injEq]⟩
theorem gEqD_ok {α : Type} [EqD α] [EqL α] [DecidableEq α] {x y : α} (h1 : EqD.ok x = true) (h2 : EqD.ok y = true) (h3 : EqD.dep α ≤ 64 := by decide) : gEqD x y = some (decide (x = y)) := by
  unfold gEqD
  rw [if_pos ⟨h1, h2, h3, h3⟩]
  congr 1
  rw [Bool.eq_iff_iff, EqL.eqv, decide_eq_true_iff]
theorem gNeD_ok {α : Type} [EqD α] [EqL α] [DecidableEq α] {x y : α} (h1 : EqD.ok x = true) (h2 : EqD.ok y = true) (h3 : EqD.dep α ≤ 64 := by decide) : gNeD x y = some (!decide (x = y)) := by
  have := gEqD_ok (x := x) (y := y) h1 h2 h3
  unfold gEqD at this
  unfold gNeD
  rw [if_pos ⟨h1, h2, h3, h3⟩] at this ⊢
  rw [Option.some.inj this]
end
end Tw

namespace Tw
open PySem L2 PySem.Spec PyProof.Rows
/-! t[::-1] of a text -/
section
variable {X : Cx}
def tRevS (te : TE) : TE := fun σ H Q => te σ H fun x H1 => ∃ z, x = .str z ∧ z.length ≤ sizeLine ∧ Q (.str ⟨z.cps.toList.reverse.toArray⟩) H1
theorem rev_pick (z : Str) : (Builtin.Str.strSliceIndices none none (-1) z.length).filterMap (z.cps[·]?) = z.cps.toList.reverse := by
  rw [picked_rev, filterMap_get]
  · apply List.ext_getElem?
    intro i
    rw [List.map_map, List.getElem?_map]
    by_cases hi : i < z.length
    · rw [List.getElem?_range hi, List.getElem?_reverse (by simpa [Str.length] using hi)]
      have h2 : z.length - 1 - i < z.cps.size := by
        have : z.length = z.cps.size := rfl
        omega
      have hl : z.length = z.cps.size := rfl
      have e1 : z.cps.toList.length - 1 - i = z.length - 1 - i := rfl
      rw [e1]
      simp only [Option.map_some, Function.comp_apply]
      rw [Array.getElem?_toList, Array.getElem?_eq_getElem h2]
      simp [Array.getD, h2]
    · rw [List.getElem?_eq_none (by simpa using hi), List.getElem?_eq_none (by simpa [Str.length] using hi)]
      rfl
  · intro i hi
    obtain ⟨k, hk, rfl⟩ := List.mem_map.mp hi
    have hk' : k < z.length := List.mem_range.mp hk
    show z.length - 1 - k < z.length
    omega
theorem pe_revS {e : Expr} {te : TE} {k : Nat} {p1 p2 p3 pos : Pos} (he : PE X e te) : PE X (.Subscript e (.Slice none none (some (.UnaryOp .USub (.Constant (.int 1) k p1) p2)) p3) pos) (tRevS te) := by
  refine ⟨fun pins s σ H Q I h => ?_⟩
  refine Subscript_ (thn (he.run pins s σ H _ I h) fun v s1 ⟨x, H1, I1, r1, q1⟩ => ?_)
  obtain ⟨z, ex, hz, q⟩ := q1
  subst ex
  obtain ⟨t, rfl⟩ := r1
  have hst : PO X (some (.UnaryOp .USub (.Constant (.int 1) k p1) p2)) (tPart (tUn (rU fun i => .int (-i)) (tC (.int 1)))) := po_some (pe_un un_neg pe_int)
  refine wpAny_Slice (thn (po_none.run pins s1 σ H1 (fun o H2 => o = none ∧ H2 = H1) I1 ⟨rfl, rfl⟩) fun vl s2 ⟨l, H2, I2, pl, el, e2⟩ => ?_)
  subst el e2
  refine thn (po_none.run pins s2 σ H2 (fun o H3 => o = none ∧ H3 = H2) I2 ⟨rfl, rfl⟩) fun vu s3 ⟨u, H3, I3, pu, eu, e3⟩ => ?_
  subst eu e3
  refine thn (hst.run pins s3 σ H3 (fun o H4 => o = some (-1) ∧ H4 = H3) I3 ⟨1, rfl, -1, rfl, rfl, rfl⟩) fun vs s4 ⟨o, H4, I4, ps, eo, e4⟩ => ?_
  subst eo e4
  have I5 : Inv X pins σ H4 { s4 with heap := s4.heap.push { cls := .type "slice", data := .fields #[vl, vu, vs] } } := I4.kept (t' := s4.toks) fun b ob q => Heap.get?_push_of_some _ q
  obtain ⟨ol, rfl, el⟩ := IsPart.raw pl
  obtain ⟨ou, rfl, eu⟩ := IsPart.raw pu
  obtain ⟨ot, rfl, es⟩ := IsPart.raw ps
  obtain ⟨os, hos, hcs, hds⟩ := Heap.IsSliceOf.new s4.heap (partValue ol) (partValue ou) (partValue ot)
  show wpAny (model X.prog X.w) X.A (subscriptTail e (.Slice none none (some (.UnaryOp .USub (.Constant (.int 1) k p1) p2)) p3) (.str z t) (.ref s4.heap.objs.size)) (EP X pins σ Q) X.xe { s4 with heap := s4.heap.push { cls := .type "slice", data := .fields #[partValue ol, partValue ou, partValue ot] } }
  refine tail_any (ops := [.ref s4.heap.objs.size, .str z t]) (typeIs_str _ _ _) (F.slot_str_getitem.lookup) ?_ (by with_unfolding_all rfl)
  refine wpAny_getItem_str_slice (l := ol) (u := ou) (st := ot) ⟨os, hos, hcs, hds⟩ (by rw [es]; decide) ?_
  unfold sliceMade slicePicked
  rw [el, eu, es]
  show Made.post (if ((-1 : Int) == 1 && _) = true then _ else Made.str ⟨((Builtin.Str.strSliceIndices none none (-1) z.length).filterMap (z.cps[·]?)).toArray⟩) _ _
  rw [if_neg (by rw [show ((-1 : Int) == 1) = false from rfl, Bool.false_and]; exact Bool.false_ne_true), rev_pick]
  refine ⟨?_, .str _, H4, I5.tok _, ⟨_, rfl⟩, q⟩
  show (z.cps.toList.reverse.toArray).size ≤ sizeLine
  rw [List.size_toArray, List.length_reverse]
  exact hz
end
section
variable {K : PySem.W.Frag} {β : Type} {env : List Sl} {f : β → List OV}
def gRevS (x : Tx) : Option Tx := if x.length ≤ line then some x.reverse else none
theorem es_revS {te : TE} {m : M β β Tx} (h : Es K te env f m) : Es K (tRevS te) env f (mMapO gRevS m) := by
  intro as σ F H b S y b' hm Q q
  obtain ⟨x, b1, e1, hm⟩ := bd_some hm
  obtain ⟨e2, rfl⟩ := ov_some hm
  unfold gRevS at e2
  split at e2
  · rename_i hl
    cases e2
    refine h as σ F H b S x b' e1 _ fun v F1 H1 n1 o1 r1 => ⟨tS x, r1, by rw [tS_len, sizeLine_eq]; exact hl, q _ F1 H1 n1 o1 ?_⟩
    show V.str _ = V.str _
    rw [tS_cps]
    rfl
  · cases e2
/-! the box of draws: a list of a row and a place -/
abbrev Bx := List Int × Int
def ovB (K : PySem.W.Frag) (b : Bx) : OV := ⟨fun F H a => ∃ r, H a = some (.lst [r, .int b.2]) ∧ Rep.rp K F b.1 r, fun e h ⟨r, h1, h2⟩ => ⟨r, by rw [h]; exact h1, Rep.mono e h2⟩⟩
def fB (K : PySem.W.Frag) : Bx → List OV := fun b => [ovB K b]
theorem es_box0 {i k : Nat} {get : β → Bx} (hi : env[i]? = some (.own k)) (hg : ∀ b, (f b)[k]? = some (ovB K (get b))) : Es K (tOp (rIxL K) (tVar i) (tC (.int 0))) env f (fun b => some ((get b).1, b)) := by
  intro as σ F H b S y b' hm Q q
  cases hm
  obtain ⟨p, h1, h2, h3, h4, r, h5, h6⟩ := S.at_ hi (hg b)
  exact ⟨.ref p, h2, p, _, 0, r, rfl, rfl, .of h5, rfl, q r F H (.refl S.ex) S.os h6⟩
theorem es_box1 {i k : Nat} {get : β → Bx} (hi : env[i]? = some (.own k)) (hg : ∀ b, (f b)[k]? = some (ovB K (get b))) : Es K (tOp (rIxL K) (tVar i) (tC (.int 1))) env f (fun b => some ((get b).2, b)) := by
  intro as σ F H b S y b' hm Q q
  cases hm
  obtain ⟨p, h1, h2, h3, h4, r, h5, h6⟩ := S.at_ hi (hg b)
  exact ⟨.ref p, h2, p, _, 1, .int (get b).2, rfl, rfl, .of h5, rfl, q _ F H (.refl S.ex) S.os rfl⟩
theorem ss_box1 {β2 γ ρ : Type} [Rep K ρ] {f2 : β2 → List OV} {eN : γ → List Sl} {i k : Nat} {te : TE} {tr : TS} {ma : M β β Int} {get : β → Bx} {put : β → Bx → β} {mr : M β β2 (Fl γ ρ)} (hi : env[i]? = some (.own k)) (hg : ∀ b, (f b)[k]? = some (ovB K (get b))) (hp : ∀ b l, f (put b l) = (f b).set k (ovB K l))
    (ha : Es K te env f ma) (hr : Ss K tr env f f2 mr eN) :
    Ss K (tSeq (tAsg te (gSub (tVar i) (tC (.int 1)) rSetL)) tr) env f f2 (bd (bd ma fun x => fun b => some ((), put b ((get b).1, x))) fun _ => mr) eN := by
  intro as σ F H b S o b' hm D q
  obtain ⟨_, b2, e2, hm⟩ := bd_some hm
  obtain ⟨x, b1, e1, e2⟩ := bd_some e2
  cases e2
  refine ha as σ F H b S x b1 e1 _ fun v F1 H1 n1 o1 r1 => ?_
  have S1 := S.step n1 o1
  obtain ⟨p, h1, h2, h3, h4, r, h5, h6⟩ := S1.at_ hi (hg b1)
  have r1' : v = .int x := r1
  subst r1'
  refine ⟨.ref p, h2, p, _, 1, 1, rfl, rfl, h5, rfl, ?_⟩
  have n2 : Nx as F1 H1 F1 (upd H1 p (.lst [r, .int x])) := Nx.mut n1.fh h4 h3
  have o2 := o1.put (o := .lst [r, .int x]) (ow := ovB K ((get b1).1, x)) h1 ⟨r, upd_same, h6⟩
  rw [← hp] at o2
  exact hr as σ F1 _ _ ⟨n2.fh, o2, S1.env⟩ o b' hm D ((q.step n1).step n2)
def newB {β2 δ : Type} (m : M Bx β2 δ) (r : List Int) : M Unit β2 δ := fun _ => m (r, 0)
/-- a pair [row, place] is made and owned; the rest -/
theorem ss_newB {β2 γ ρ : Type} [Rep K ρ] {f2 : β2 → List OV} {eN : γ → List Sl} {i : Nat} {t1 : TE} {tr : TS} {m1 : M Unit Unit (List Int)} {mr : M Bx β2 (Fl γ ρ)} (h1 : Es K t1 env f0 m1)
    (hr : Ss K tr (env.set i (.own 0)) (fB K) f2 mr eN) (h2 : ∀ b, (f2 b).length = 0 := by exact fun _ => rfl) :
    Ss K (tSeq (tAsg (tLst (tCons t1 (tCons (tC (.int 0)) tNil))) (gName i)) tr) env f0 f2 (bd m1 fun r => newB mr r) eN := by
  intro as σ F H b S o b' hm D q
  obtain ⟨x, b1, e1, hm⟩ := bd_some hm
  refine h1 as σ F H b S x b1 e1 _ fun v F1 H1 n1 o1 r1 => ⟨by show 2 ≤ sizeLine; rw [sizeLine_eq]; decide, fun p hp => ?_⟩
  have has : as = [] := List.length_eq_zero_iff.mp S.os.2.1
  subst has
  have n2 : Nx [] F1 H1 F1 (upd H1 p (.lst [v, .int 0])) := Nx.newO n1.fh hp
  have hF : F1 p = none := n1.fh.none hp
  have o2 : OsOk [p] (fB K (x, 0)) F1 (upd H1 p (.lst [v, .int 0])) := ⟨by simp, rfl, fun i a w g1 g2 => by
    cases i with
    | zero =>
      cases g1
      cases g2
      exact ⟨hF, by rw [upd_same]; exact nofun, v, upd_same, r1⟩
    | succ i => simp at g1⟩
  have ev := ((S.env.mono n1.ff).own (i := i) (p := p))
  refine hr [p] _ F1 _ (x, 0) ⟨n2.fh, o2, ev⟩ o b' hm D ?_
  have back : ∀ {F' H'}, Nx [p] F1 (upd H1 p (.lst [v, .int 0])) F' H' → Nx [] F H F' H' := fun {F' H'} n => by
    refine n1.trans ?_
    have ne : ∀ a, H1 a ≠ none → a ≠ p := fun a h z => h (by rw [z]; exact hp)
    refine ⟨n.ff, n.fh, fun a u h e => ?_, fun a m h => n.old a (fun z => ne a h (by simpa using z)) (by rw [upd_ne (ne a h)]; exact h), fun a h => n.there a (by rw [upd_ne (ne a h)]; exact h)⟩
    have hne : a ≠ p := ne a (by rw [e]; exact nofun)
    exact n.keep a u (fun m => hne (by simpa using m)) (by rw [upd_ne hne]; exact e)
  have tk : ∀ b : β2, ([p] : List Addr).take (f2 b).length = ([] : List Addr).take (f2 b).length := fun b => by rw [h2 b]; rfl
  cases o with
  | nx g => exact fun σ' F' H' n' S' => q σ' F' H' (back n') (by rw [← tk]; exact S')
  | bk g => exact fun σ' F' H' n' S' => q σ' F' H' (back n') (by rw [← tk]; exact S')
  | ct g => exact fun σ' F' H' n' S' => q σ' F' H' (back n') (by rw [← tk]; exact S')
  | rt r => exact fun v F' H' n' o' => q v F' H' (back n') (by rw [← tk]; exact o')
def mRetD {β β2 α γ : Type} (j : β → β2) (ma : M β β α) : M β β2 (Fl γ α) := bd ma fun x => rtD j x
theorem ss_retD {β β2 γ ρ : Type} [Rep K ρ] {env : List Sl} {f : β → List OV} {f2 : β2 → List OV} {eN : γ → List Sl} {te : TE} {ma : M β β ρ} {j : β → β2} (ha : Es K te env f ma) (hj : DropF f f2 j) : Ss K (tRet te) env f f2 (mRetD j ma) eN := by
  intro as σ F H b S o b' hm D q
  obtain ⟨x, b1, e1, hm⟩ := bd_some hm
  have hm : some ((Fl.rt x : Fl γ ρ), j b1) = some (o, b') := hm
  cases hm
  exact ha as σ F H b S x b1 e1 _ fun v F1 H1 n1 o1 r1 => q v F1 H1 n1 (hj.ok o1) r1
theorem ss_pass {β β2 γ ρ : Type} [Rep K ρ] {env : List Sl} {f : β → List OV} {f2 : β2 → List OV} {eN : γ → List Sl} {tr : TS} {mr : M β β2 (Fl γ ρ)} (hr : Ss K tr env f f2 mr eN) : Ss K (tSeq tNext tr) env f f2 mr eN := by
  intro as σ F H b S o b' hm D q
  exact hr as σ F H b S o b' hm D q
end
/-! ### the text's defs, from what the top has left -/
theorem raw_mk {K : PySem.W.Frag} {h : Heap} {mg : Str → Option Value} {x : Str} {ps : List Str} {st : Stmt} {f : Addr} {oc : Value} {od an : Option Addr} {osl : Array (Option Value)} {kV doc pm cdv ct : Value} (X : K.In h) (G : h.Ns mainGlobals mg)
    (hb : ∀ (kV doc pm : Value) (an : Option Addr) (cdv ct : Value) (us : List Value), us.length = ps.length → bindArgs (PySem.W.fnOf x x (defArgs st) (defBody st) (defScope st) .none kV doc pm an cdv ct) ⟨us, []⟩ = pure (ps.zip us))
    (a : PySem.W.nsIn K mainGlobals x = some (some (.ref f))) (l : K.lookup f = some ⟨oc, od, .func (PySem.W.fnOf x x (defArgs st) (defBody st) (defScope st) .none kV doc pm an cdv ct), osl⟩) (c : PySem.W.codeIn K cdv x = true) (k : PySem.W.keepIn K (.ref f) = true) : Raw K mg x ps st :=
  ⟨f, _, fun_mk l c k, PySem.W.mg_of X G a, k, (fun_mk l c k).binds hb⟩
theorem bt_min : bootBuiltins "min" = some (.builtin "min") := by decide +kernel
theorem bt_len : bootBuiltins "len" = some (.builtin "len") := by decide +kernel
theorem bt_abs : bootBuiltins "abs" = some (.builtin "abs") := by decide +kernel
theorem bt_int : bootBuiltins "int" = some (.type "int") := by decide +kernel
theorem sp_law {K : PySem.W.Frag} {mc : Scr × Unit → M Unit Unit Bool} {H : Hp} {a : Addr} {ns : List Int} (h : SqL K H a (ns.map V.int)) (e : mc (⟨ns⟩, ()) () = some (true, ())) : sp K f0 mc [.ref a] H (fun v _ => v = .bl true) (fun _ _ _ => False) :=
  ⟨[], [.ref a], H, (), (), (⟨ns⟩, ()), true, rfl, .refl H, .nil, ⟨.ref a, [], rfl, ⟨a, rfl, h⟩, rfl⟩, e, fun _ _ _ _ _ r => r⟩
end Tw

/-! Plain lemmas about the mirrors' language. -/
namespace Tw
open PySem L2
/-! the language's equations -/
section
variable {β β2 α γ γ' δ ρ : Type}
@[simp] theorem mThen_nx {j : β → β2} {g : γ'} {k : γ' → M β β2 (Fl γ ρ)} : mThen j (pu (.nx g)) k = k g := of_rfl rfl
@[simp] theorem mThen_rt {j : β → β2} {x : ρ} {k : γ' → M β β2 (Fl γ ρ)} : mThen j (pu (.rt x)) k = rtD j x := of_rfl rfl
@[simp] theorem rtD_id {x : ρ} : rtD (γ := γ) (fun b : β => b) x = pu (.rt x) := of_rfl rfl
@[simp] theorem mThen_ite {j : β → β2} {c : Prop} [Decidable c] {m m' : M β β (Fl γ' ρ)} {k : γ' → M β β2 (Fl γ ρ)} : mThen j (if c then m else m') k = if c then mThen j m k else mThen j m' k := by
  by_cases h : c
  · rw [if_pos h, if_pos h]
  · rw [if_neg h, if_neg h]
@[simp] theorem retM_rt {x : ρ} : retM (pu (β := β) (.rt x : Fl γ ρ)) = pu x := of_rfl rfl
@[simp] theorem retM_ite {c : Prop} [Decidable c] {m m' : M β β (Fl γ ρ)} : retM (if c then m else m') = if c then retM m else retM m' := by
  by_cases h : c
  · rw [if_pos h, if_pos h]
  · rw [if_neg h, if_neg h]
@[simp] theorem mIf_pu {c : Bool} {a b : M β β2 α} : mIf (pu c) a b = if c = true then a else b := of_rfl rfl
@[simp] theorem mOp_pu {g : α → γ → Option δ} {x : α} {y : γ} : mOp (β := β) g (pu x) (pu y) = ov (g x y) := of_rfl rfl
@[simp] theorem mMapO_pu {g : α → Option δ} {x : α} : mMapO (β := β) g (pu x) = ov (g x) := of_rfl rfl
@[simp] theorem mMap_pu {g : α → δ} {x : α} : mMap (β := β) g (pu x) = pu (g x) := of_rfl rfl
@[simp] theorem mCons_pu {x : α} {y : γ} : mCons (β := β) (pu x) (pu y) = pu (x, y) := of_rfl rfl
@[simp] theorem mConsL_pu {x : α} {y : List α} : mConsL (β := β) (pu x) (pu y) = pu (x :: y) := of_rfl rfl
@[simp] theorem mSl_pu {g : α → Option Int → Option Int → Option α} {x : α} {lo hi : Option Int} : mSl (β := β) g (pu x) (pu lo) (pu hi) = ov (g x lo hi) := of_rfl rfl
@[simp] theorem mAnd_pu {c : Bool} {m : M β β Bool} : mAnd (pu c) m = if c = true then m else pu false := of_rfl rfl
@[simp] theorem mOr_pu {c : Bool} {m : M β β Bool} : mOr (pu c) m = if c = true then pu true else m := of_rfl rfl
@[simp] theorem mNot_pu {c : Bool} : mNot (β := β) (pu c) = pu (!c) := of_rfl rfl
@[simp] theorem mRet_pu {x : α} : mRet (γ := γ) (β := β) (pu x) = pu (.rt x) := of_rfl rfl
@[simp] theorem mRetD_pu {j : β → β2} {x : α} : mRetD (γ := γ) j (pu x) = rtD j x := of_rfl rfl
@[simp] theorem frzM_ap {m : List α → M β β2 δ} {b : β} {l : List α} : frzM m (b, l) = m l b := of_rfl rfl
@[simp] theorem newM_ap {m : M (β × List α) β2 δ} {b : β} : newM m b = m (b, []) := of_rfl rfl
@[simp] theorem zoomU_pu {x : α} : zoom (fun _ : β => ()) (fun b _ => b) (pu x : M Unit Unit α) = pu x := of_rfl rfl
theorem bd_ap {β1 : Type} {m : M β β1 α} {k : α → M β1 β2 γ} {b : β} {x : α} {b1 : β1} (h : m b = some (x, b1)) : bd m k b = k x b1 := by
  unfold bd
  rw [h]
  rfl
end
/-! the computation ends, what holds of the state holds again -/
def Tot {β α : Type} (I : β → Prop) (m : M β β α) (Q : α → Prop) : Prop := ∀ b, I b → ∃ x b', m b = some (x, b') ∧ I b' ∧ Q x
section
variable {β α γ δ ρ : Type} {I : β → Prop}
theorem Tot.pu {x : α} {Q : α → Prop} (h : Q x) : Tot I (pu x) Q := fun b i => ⟨x, b, rfl, i, h⟩
theorem Tot.bd {m : M β β α} {k : α → M β β γ} {Q : α → Prop} {R : γ → Prop} (h : Tot I m Q) (hk : ∀ x, Q x → Tot I (k x) R) : Tot I (bd m k) R := fun b i => by
  obtain ⟨x, b1, e1, i1, q⟩ := h b i
  obtain ⟨y, b2, e2, i2, r⟩ := hk x q b1 i1
  exact ⟨y, b2, by unfold Tw.bd; rw [e1]; exact e2, i2, r⟩
theorem Tot.imp {m : M β β α} {Q R : α → Prop} (h : Tot I m Q) (hq : ∀ x, Q x → R x) : Tot I m R := fun b i => by
  obtain ⟨x, b1, e1, i1, q⟩ := h b i
  exact ⟨x, b1, e1, i1, hq x q⟩
theorem Tot.ite {c : Prop} [Decidable c] {m m' : M β β α} {Q : α → Prop} (h : c → Tot I m Q) (h' : ¬ c → Tot I m' Q) : Tot I (if c then m else m') Q := by
  by_cases hc : c
  · rw [if_pos hc]; exact h hc
  · rw [if_neg hc]; exact h' hc
theorem Tot.loop {body : γ → α → M β β (Fl γ ρ)} {J : γ → Prop} : ∀ {xs : List α} {c : γ}, J c → (∀ c, J c → ∀ x ∈ xs, Tot I (body c x) fun o => ∃ c', o = .nx c' ∧ J c') → Tot I (loopM body xs c) fun o => ∃ c', o = .nx c' ∧ J c'
  | [], c, j, _ => .pu ⟨c, rfl, j⟩
  | x :: xs, c, j, h => by
    refine .bd (h c j x List.mem_cons_self) fun o ⟨c', e, j'⟩ => ?_
    subst e
    exact Tot.loop j' fun c jc y hy => h c jc y (List.mem_cons_of_mem _ hy)
/-- a loop whose state is told by the part that is gone through -/
theorem Tot.loopI {body : γ → α → M β β (Fl γ ρ)} {J : List α → γ → Prop} : ∀ (xs pre : List α) {c : γ}, J pre c → (∀ (p : List α) (x : α) (r : List α) c, pre ++ xs = p ++ x :: r → J p c → Tot I (body c x) fun o => ∃ c', o = .nx c' ∧ J (p ++ [x]) c') → Tot I (loopM body xs c) fun o => ∃ c', o = .nx c' ∧ J (pre ++ xs) c'
  | [], pre, c, j, _ => .pu ⟨c, rfl, by rw [List.append_nil]; exact j⟩
  | x :: xs, pre, c, j, h => by
    refine .bd (h pre x xs c rfl j) fun o ⟨c', e, j'⟩ => ?_
    subst e
    have := Tot.loopI xs (pre ++ [x]) j' fun p y r c e2 jc => h p y r c (by rw [← e2]; simp) jc
    simpa using this
theorem Tot.comp {t : α → M β β Bool} {e : α → M β β γ} {Q : γ → Prop} : ∀ {xs : List α}, (∀ x ∈ xs, Tot I (t x) fun _ => True) → (∀ x ∈ xs, Tot I (e x) Q) → Tot I (compM t e xs) fun ys => ys.length ≤ xs.length ∧ ∀ y ∈ ys, Q y
  | [], _, _ => .pu ⟨Nat.le_refl _, fun _ h => nomatch h⟩
  | x :: xs, h1, h2 => by
    have ih := Tot.comp (xs := xs) (fun y hy => h1 y (List.mem_cons_of_mem _ hy)) fun y hy => h2 y (List.mem_cons_of_mem _ hy)
    refine .bd (h1 x List.mem_cons_self) fun c _ => .ite (fun _ => ?_) fun _ => ?_
    · refine .bd (h2 x List.mem_cons_self) fun y hy => .bd ih fun ys ⟨h3, h4⟩ => .pu ⟨by simp only [List.length_cons]; omega, fun z hz => ?_⟩
      rcases List.mem_cons.mp hz with rfl | hz
      · exact hy
      · exact h4 z hz
    · exact ih.imp fun ys ⟨h3, h4⟩ => ⟨by simp only [List.length_cons]; omega, h4⟩
/-- all items are taken: the list's length is known -/
theorem Tot.map {e : α → M β β γ} {Q : γ → Prop} : ∀ {xs : List α}, (∀ x ∈ xs, Tot I (e x) Q) → Tot I (compM (fun _ => Tw.pu true) e xs) fun ys => ys.length = xs.length ∧ ∀ y ∈ ys, Q y
  | [], _ => .pu ⟨rfl, fun _ h => nomatch h⟩
  | x :: xs, h2 => by
    have ih := Tot.map (xs := xs) fun y hy => h2 y (List.mem_cons_of_mem _ hy)
    show Tot I (Tw.bd (e x) fun y => Tw.bd (compM (fun _ => Tw.pu true) e xs) fun ys => Tw.pu (y :: ys)) _
    refine .bd (h2 x List.mem_cons_self) fun y hy => .bd ih fun ys ⟨h3, h4⟩ => .pu ⟨by simp only [List.length_cons]; omega, fun z hz => ?_⟩
    rcases List.mem_cons.mp hz with rfl | hz
    · exact hy
    · exact h4 z hz
end
section
variable {β α γ δ : Type} {I : β → Prop}
theorem Tot.op {g : α → γ → Option δ} {ma : M β β α} {mb : M β β γ} {A : α → Prop} {B : γ → Prop} {R : δ → Prop} (ha : Tot I ma A) (hb : Tot I mb B) (h : ∀ x y, A x → B y → ∃ z, g x y = some z ∧ R z) : Tot I (mOp g ma mb) R := by
  unfold mOp
  refine .bd ha fun x hx => .bd hb fun y hy => ?_
  obtain ⟨z, e, r⟩ := h x y hx hy
  rw [e]
  exact .pu r
theorem Tot.mapO {g : α → Option δ} {ma : M β β α} {A : α → Prop} {R : δ → Prop} (ha : Tot I ma A) (h : ∀ x, A x → ∃ z, g x = some z ∧ R z) : Tot I (mMapO g ma) R := by
  unfold mMapO
  refine .bd ha fun x hx => ?_
  obtain ⟨z, e, r⟩ := h x hx
  rw [e]
  exact .pu r
theorem Tot.map_ {g : α → δ} {ma : M β β α} {A : α → Prop} {R : δ → Prop} (ha : Tot I ma A) (h : ∀ x, A x → R (g x)) : Tot I (mMap g ma) R := by
  unfold mMap
  exact .bd ha fun x hx => .pu (h x hx)
theorem Tot.cons {ma : M β β α} {mb : M β β γ} {A : α → Prop} {B : γ → Prop} {R : α × γ → Prop} (ha : Tot I ma A) (hb : Tot I mb B) (h : ∀ x y, A x → B y → R (x, y)) : Tot I (mCons ma mb) R := by
  unfold mCons
  exact .bd ha fun x hx => .bd hb fun y hy => .pu (h x y hx hy)
theorem Tot.one {ma : M β β α} {A : α → Prop} (ha : Tot I ma A) : Tot I (mCons ma (Tw.pu ())) fun z => A z.1 := .cons ha (.pu (Q := fun _ => True) trivial) fun _ _ h _ => h
theorem Tot.sl {g : α → Option Int → Option Int → Option α} {m : M β β α} {ml mh : M β β (Option Int)} {A : α → Prop} {B C : Option Int → Prop} {R : α → Prop} (ha : Tot I m A) (hb : Tot I ml B) (hc : Tot I mh C) (h : ∀ x lo hi, A x → B lo → C hi → ∃ z, g x lo hi = some z ∧ R z) : Tot I (mSl g m ml mh) R := by
  unfold mSl
  refine .bd ha fun x hx => .bd hb fun y hy => .bd hc fun z hz => ?_
  obtain ⟨w, e, r⟩ := h x y z hx hy hz
  rw [e]
  exact .pu r
theorem Tot.eq {x : α} : Tot I (Tw.pu x) fun y => y = x := .pu rfl
end
/-! triples -/
def Tri {β β2 α : Type} (P : β → Prop) (m : M β β2 α) (Q : α → β2 → Prop) : Prop := ∀ b, P b → ∃ x b', m b = some (x, b') ∧ Q x b'
section
variable {β β1 β2 α γ δ ρ : Type} {P : β → Prop}
theorem Tri.pu {x : α} {Q : α → β → Prop} (h : ∀ b, P b → Q x b) : Tri P (pu x) Q := fun b i => ⟨x, b, rfl, h b i⟩
theorem Tri.ov {o : Option α} {x : α} {Q : α → β → Prop} (e : o = some x) (h : ∀ b, P b → Q x b) : Tri P (ov o) Q := by
  rw [e]
  exact .pu h
theorem Tri.bd {m : M β β1 α} {k : α → M β1 β2 γ} {Q : α → β1 → Prop} {R : γ → β2 → Prop} (h : Tri P m Q) (hk : ∀ x, Tri (Q x) (k x) R) : Tri P (bd m k) R := fun b i => by
  obtain ⟨x, b1, e1, q⟩ := h b i
  obtain ⟨y, b2, e2, r⟩ := hk x b1 q
  exact ⟨y, b2, by unfold Tw.bd; rw [e1]; exact e2, r⟩
theorem Tri.imp {m : M β β2 α} {Q R : α → β2 → Prop} (h : Tri P m Q) (hq : ∀ x b, Q x b → R x b) : Tri P m R := fun b i => by
  obtain ⟨x, b1, e1, q⟩ := h b i
  exact ⟨x, b1, e1, hq x b1 q⟩
theorem Tri.pre {P' : β → Prop} {m : M β β2 α} {Q : α → β2 → Prop} (h : Tri P m Q) (hp : ∀ b, P' b → P b) : Tri P' m Q := fun b i => h b (hp b i)
theorem Tri.ite {c : Prop} [Decidable c] {m m' : M β β2 α} {Q : α → β2 → Prop} (h : c → Tri P m Q) (h' : ¬ c → Tri P m' Q) : Tri P (if c then m else m') Q := by
  by_cases hc : c
  · rw [if_pos hc]; exact h hc
  · rw [if_neg hc]; exact h' hc
/-- what is known of the state does not hang on it -/
theorem Tri.of {A : Prop} {m : M β β2 α} {Q : α → β2 → Prop} (h : ∀ b, P b → A) (k : A → Tri P m Q) : Tri P m Q := fun b i => k (h b i) b i
theorem Tri.loop {body : γ → α → M β β (Fl γ ρ)} {J : Nat → γ → β → Prop} : ∀ (xs : List α) (i : Nat) {c : γ}, (∀ (j : Nat) (c : γ) (x : α), xs[j]? = some x → Tri (J (i + j) c) (body c x) fun o b' => ∃ c', o = .nx c' ∧ J (i + j + 1) c' b') → Tri (J i c) (loopM body xs c) fun o b' => ∃ c', o = .nx c' ∧ J (i + xs.length) c' b'
  | [], i, c, _ => .pu fun b j => ⟨c, rfl, j⟩
  | x :: xs, i, c, h => by
    refine .bd (h 0 c x rfl) fun o => ?_
    intro b ⟨c', e, j⟩
    subst e
    have := Tri.loop (J := J) (body := body) xs (i + 1) (c := c') (fun j c y hy => by
      have := h (j + 1) c y (by simpa using hy)
      have e : i + (j + 1) = i + 1 + j := by omega
      rw [e] at this
      exact this) b j
    have e : i + 1 + xs.length = i + (x :: xs).length := by rw [List.length_cons]; omega
    rw [e] at this
    exact this
theorem Tri.upd {g : α → δ → Option α} {get : β → α} {put : β → α → β} {x : δ} {Q : Unit → β → Prop} (h : ∀ b, P b → ∃ l, g (get b) x = some l ∧ Q () (put b l)) : Tri P (mUpd get put g x) Q := fun b i => by
  obtain ⟨l, e, q⟩ := h b i
  exact ⟨(), put b l, by unfold mUpd; rw [e]; rfl, q⟩
theorem Tri.then {γ' : Type} {j : β → β2} {m : M β β (Fl γ' ρ)} {k : γ' → M β β2 (Fl γ ρ)} {J : γ' → β → Prop} {R : Fl γ ρ → β2 → Prop} (h : Tri P m fun o b' => ∃ c', o = .nx c' ∧ J c' b') (hk : ∀ g, Tri (J g) (k g) R) : Tri P (mThen j m k) R := fun b i => by
  obtain ⟨x, b1, e1, c', rfl, q⟩ := h b i
  obtain ⟨y, b2, e2, r⟩ := hk c' b1 q
  exact ⟨y, b2, by unfold mThen Tw.bd; rw [e1]; exact e2, r⟩
theorem Tri.newM {m : M (β × List α) β2 δ} {Q : δ → β2 → Prop} (h : Tri (fun b : β × List α => P b.1 ∧ b.2 = []) m Q) : Tri P (newM m) Q := fun b i => h (b, []) ⟨i, rfl⟩
theorem Tri.frzM {P : β × List α → Prop} {m : List α → M β β2 δ} {Q : δ → β2 → Prop} (h : ∀ l, Tri (fun b => P (b, l)) (m l) Q) : Tri P (frzM m) Q := fun b i => h b.2 b.1 i
theorem Tri.pure_ {m : M Unit Unit α} {Q : α → Prop} (h : Tri (fun _ : Unit => True) m fun x _ => Q x) : ∃ x, m = Tw.pu x ∧ Q x := by
  obtain ⟨x, b, e, q⟩ := h () trivial
  exact ⟨x, funext fun _ => e, q⟩
theorem Tri.retM {m : M β β (Fl γ ρ)} {Q : ρ → β → Prop} (h : Tri P m fun o b => ∃ r, o = .rt r ∧ Q r b) : Tri P (retM m) Q := fun b i => by
  obtain ⟨x, b1, e1, r, rfl, q⟩ := h b i
  exact ⟨r, b1, by unfold Tw.retM Tw.bd; rw [e1]; rfl, q⟩
theorem Tot.tri {I : β → Prop} {m : M β β α} {Q : α → Prop} (h : Tri I m fun x b => I b ∧ Q x) : Tot I m Q := fun b i => h b i
theorem Tot.then {I : β → Prop} {γ' : Type} {m : M β β (Fl γ' ρ)} {k : γ' → M β β (Fl γ ρ)} {J : γ' → Prop} {R : Fl γ ρ → Prop} (h : Tot I m fun o => ∃ c', o = .nx c' ∧ J c') (hk : ∀ g, J g → Tot I (k g) R) : Tot I (mThen (fun b => b) m k) R := fun b i => by
  obtain ⟨x, b1, e1, i1, c', rfl, q⟩ := h b i
  obtain ⟨y, b2, e2, r⟩ := hk c' q b1 i1
  exact ⟨y, b2, by unfold mThen Tw.bd; rw [e1]; exact e2, r⟩
end
/-! what is pure -/
section
variable {β α γ δ ρ : Type}
theorem zoom_id {m : M β β α} : zoom (fun b : β => b) (fun (b : β) (c : β) => c) m = m := by
  funext b
  unfold zoom
  cases m b <;> rfl
theorem zoom_pu {βc : Type} {get : β → βc} {put : β → βc → β} {x : α} (h : ∀ b, put b (get b) = b) : zoom get put (pu x) = pu x := by
  funext b
  show some (x, put b (get b)) = some (x, b)
  rw [h]
theorem loopM_pure {body : γ → α → M β β (Fl γ ρ)} {g : γ → α → γ} : ∀ {xs : List α} {c : γ}, (∀ c, ∀ x ∈ xs, body c x = pu (.nx (g c x))) → loopM body xs c = pu (.nx (xs.foldl g c))
  | [], c, _ => rfl
  | x :: xs, c, h => by
    show bd (body c x) _ = _
    rw [h c x List.mem_cons_self, bd_pu]
    exact loopM_pure fun c y hy => h c y (List.mem_cons_of_mem _ hy)
theorem compM_pure {t : α → M β β Bool} {e : α → M β β γ} {p : α → Bool} {g : α → γ} : ∀ {xs : List α}, (∀ x ∈ xs, t x = pu (p x)) → (∀ x ∈ xs, p x = true → e x = pu (g x)) → compM t e xs = pu ((xs.filter p).map g)
  | [], _, _ => rfl
  | x :: xs, h1, h2 => by
    show bd (t x) _ = _
    rw [h1 x List.mem_cons_self, bd_pu, compM_pure (fun y hy => h1 y (List.mem_cons_of_mem _ hy)) fun y hy => h2 y (List.mem_cons_of_mem _ hy)]
    cases hp : p x with
    | true =>
      rw [if_pos rfl, h2 x List.mem_cons_self hp, List.filter_cons_of_pos hp]
      rfl
    | false =>
      rw [if_neg Bool.false_ne_true, List.filter_cons_of_neg (by rw [hp]; exact Bool.false_ne_true)]
/-! slices -/
theorem sIx_some (n d : Nat) (i : Int) (h : 0 ≤ i) : HT.sIx n d (some i) = min i.toNat n := by
  show (if i < 0 then (i + (n : Int)).toNat else min i.toNat n) = _
  rw [if_neg (by omega)]
theorem cut_from {x : List α} {i : Int} (h : 0 ≤ i) : cut x (some i) none = x.drop i.toNat := by
  unfold cut
  rw [sIx_some _ _ _ h, HT.sIx_none]
  by_cases hi : i.toNat ≤ x.length
  · rw [Nat.min_eq_left hi]
    exact List.take_of_length_le (by rw [List.length_drop]; omega)
  · rw [Nat.min_eq_right (by omega), List.drop_of_length_le (show x.length ≤ i.toNat by omega), Nat.sub_self]
    rfl
theorem cut_to {x : List α} {i : Int} (h : 0 ≤ i) : cut x none (some i) = x.take i.toNat := by
  unfold cut
  rw [sIx_some _ _ _ h, HT.sIx_none, List.drop_zero, Nat.sub_zero]
  by_cases hi : i.toNat ≤ x.length
  · rw [Nat.min_eq_left hi]
  · rw [Nat.min_eq_right (by omega), List.take_of_length_le (Nat.le_refl _), List.take_of_length_le (by omega)]
theorem cut_mid {x : List α} {i j : Int} (h : 0 ≤ i) (h2 : 0 ≤ j) : cut x (some i) (some j) = (x.take j.toNat).drop i.toNat := by
  unfold cut
  rw [sIx_some _ _ _ h, sIx_some _ _ _ h2]
  apply List.ext_getElem?
  intro k
  rw [List.getElem?_take, List.getElem?_drop, List.getElem?_drop, List.getElem?_take]
  by_cases hk : i.toNat + k < x.length
  · have : min i.toNat x.length = i.toNat := by omega
    rw [this]
    by_cases hj : i.toNat + k < j.toNat
    · rw [if_pos hj, if_pos (by omega)]
    · rw [if_neg hj, if_neg (by omega)]
  · have e1 : x[i.toNat + k]? = none := List.getElem?_eq_none (by omega)
    have e2 : x[min i.toNat x.length + k]? = none ∨ ¬ k < min j.toNat x.length - min i.toNat x.length := by
      by_cases hi : i.toNat ≤ x.length
      · left
        rw [Nat.min_eq_left hi]
        exact e1
      · right
        omega
    rw [e1]
    rcases e2 with e2 | e2
    · rw [e2]; simp
    · rw [if_neg e2]; simp
theorem atI_of {xs : List α} {i : Int} {k : Nat} (h : i = (k : Int)) : atI xs i = xs[k]? := by
  subst h
  by_cases hk : k < xs.length
  · rw [atI_nat (List.getElem?_eq_getElem hk), List.getElem?_eq_getElem hk]
  · rw [List.getElem?_eq_none (by omega)]
    unfold atI ixN
    rw [if_pos (by omega), if_neg (by omega)]
    rfl
theorem ck62_ok {i : Int} (h : -(2 ^ 62) ≤ i ∧ i < 2 ^ 62) : ck62 i = some i := if_pos h
theorem mem_rangeI {lo hi x : Int} (h : x ∈ rangeI lo hi) : lo ≤ x ∧ x < hi := by
  unfold rangeI at h
  obtain ⟨k, hk, rfl⟩ := List.mem_map.mp h
  have := List.mem_range.mp hk
  omega
theorem rangeI_len {lo hi : Int} : (rangeI lo hi).length = (hi - lo).toNat := by simp [rangeI]
theorem rangeI_split {lo hi : Int} {p r : List Int} {x : Int} (h : rangeI lo hi = p ++ x :: r) : x = lo + (p.length : Int) ∧ lo + (p.length : Int) < hi := by
  have h1 : (rangeI lo hi)[p.length]? = some x := by rw [h]; simp
  have := rangeI_get h1
  omega
end
/-! the draws -/
def BxOk (b : Bx) : Prop := 0 ≤ b.2
end Tw

namespace My
open PySem L2 Tw
def mb_common (v_one : Tx) (v_two : Tx) : M Unit Unit (Fl Unit Int) :=
  bd (pu (0 : Int)) fun v_count_1 => mThen (fun b : Unit => b) (whileM (fun c2 : Int => mAnd (mOp (gB fun i j => decide (i < j)) (pu c2) (mMapO gMin2 ((mCons (mMapO gLenT ((mCons (pu v_one) (pu ())))) (mCons (mMapO gLenT ((mCons (pu v_two) (pu ())))) (pu ())))))) (mOp gEqS (mOp gIxS (pu v_one) (pu c2)) (mOp gIxS (pu v_two) (pu c2)))) (fun c2 : Int => bd (bd (pu (1 : Int)) fun y => ov (gI (· + ·) c2 y)) fun v_count_3 => pu (.nx v_count_3)) (v_one.length + 1) v_count_1) fun g4 => mRet (pu g4)
def m_common (v_one : Tx) (v_two : Tx) : M Unit Unit Int := retM (mb_common v_one v_two)

def mb_change (v_one : Tx) (v_two : Tx) : M Unit Unit (Fl Unit (Option (T3 Int Int Tx))) :=
  mThen (fun b : Unit => b) (mIf (mOp gEqS (pu v_one) (pu v_two)) (mRet (pu (none : (Option (T3 Int Int Tx))))) (pu (.nx ()))) fun g1 => bd (bd (mCons (pu v_one) (mCons (pu v_two) (pu ()))) fun x => zoom (fun _ => ()) (fun b _ => b) (m_common x.1 x.2.1)) fun v_offset_2 => bd (bd (mCons (mMapO gRevS (mSl gCut (pu v_one) (mMap some (pu v_offset_2)) (pu none))) (mCons (mMapO gRevS (mSl gCut (pu v_two) (mMap some (pu v_offset_2)) (pu none))) (pu ()))) fun x => zoom (fun _ => ()) (fun b _ => b) (m_common x.1 x.2.1)) fun v_end_3 => mRet (mMap some (mMap pr3 ((mCons (pu v_offset_2) (mCons (mOp (gI (· - ·)) (mOp (gI (· - ·)) (mMapO gLenT ((mCons (pu v_one) (pu ())))) (pu v_offset_2)) (pu v_end_3)) (mCons (mSl gCut (pu v_two) (mMap some (pu v_offset_2)) (mMap some (mOp (gI (· - ·)) (mMapO gLenT ((mCons (pu v_two) (pu ())))) (pu v_end_3)))) (pu ())))))))
def m_change (v_one : Tx) (v_two : Tx) : M Unit Unit (Option (T3 Int Int Tx)) := retM (mb_change v_one v_two)

def mb_changed (v_one : Tx) (v_told : (Option (T3 Int Int Tx))) : M Unit Unit (Fl Unit Tx) :=
  mThen (fun b : Unit => b) (mIf (mOp (fun (x : (Option (T3 Int Int Tx))) (_ : Unit) => some x.isNone) (pu v_told) (pu ())) (mRet (pu v_one)) (pu (.nx ()))) fun g1 => bd (mMapO (fun x : (Option (T3 Int Int Tx)) => x) (pu v_told)) fun t2 => mRet (mOp gCat (mOp gCat (mSl gCut (pu v_one) (pu none) (mMap some (pu t2.a))) (pu t2.c)) (mSl gCut (pu v_one) (mMap some (mOp (gI (· + ·)) (pu t2.a) (pu t2.b))) (pu none)))
def m_changed (v_one : Tx) (v_told : (Option (T3 Int Int Tx))) : M Unit Unit Tx := retM (mb_changed v_one v_told)

def mb_law_cell (v_script : Scr) (v_k : Int) : M Unit Unit (Fl Unit Int) :=
  mThen (fun b : Unit => b) (mIf (mOp (gB fun i j => decide (i < j)) (pu v_k) (mMapO (fun x : Scr × Unit => some (x.1.ns.length : Int)) ((mCons (pu v_script) (pu ()))))) (mRet (mOp (fun (x : Scr) (i : Int) => atI x.ns i) (pu v_script) (pu v_k))) (pu (.nx ()))) fun g1 => mRet (pu (0 : Int))
def m_law_cell (v_script : Scr) (v_k : Int) : M Unit Unit Int := retM (mb_law_cell v_script v_k)

def mb_law_row (v_script : Scr) (v_first : Int) (v_last : Int) : M Unit Unit (Fl Unit (List Int)) :=
  (newM (α := Int) (mThen (fun b : (Unit × List Int) => b.1) (bd (mMapO gRange2 (mCons (pu v_first) (mCons (pu v_last) (pu ())))) fun xs => loopM (fun (c1 : Unit) (x2 : Int) => bd (bd (mCons (pu v_script) (mCons (pu x2) (pu ()))) fun x => zoom (fun _ => ()) (fun b _ => b) (m_law_cell x.1 x.2.1)) fun v_cell_here_3 => bd (mOp (gI (· + ·)) (mMapO gAbs ((mCons (mOp gMul (pu (2 : Int)) (pu v_cell_here_3)) (pu ())))) (mMapO gIntB ((mCons (mOp (gB fun i j => decide (i < j)) (pu v_cell_here_3) (pu (0 : Int))) (pu ()))))) fun v_cell_here_4 => mThen (fun b : (Unit × List Int) => b) (mIf (mOp (gB fun i j => decide (j < i)) (pu v_cell_here_4) (mOp gPow (pu (10 : Int)) (pu (18 : Int)))) (mThen (fun b : (Unit × List Int) => b) (bd (mMapO gRange1 (mCons (pu (60 : Int)) (pu ()))) fun xs => loopM (fun (c5 : Int) (x6 : Int) => mThen (fun b : (Unit × List Int) => b) (mIf (mOp (gB fun i j => decide (j < i)) (pu c5) (pu (0 : Int))) (bd (bd (mOp gMod (mMapO (fun x : Int × Unit => some x.1) ((mCons (pu c5) (pu ())))) (pu (840 : Int))) (mUpd (fun b : (Unit × List Int) => b.2) (fun (b : (Unit × List Int)) l => (b.1, l)) gApp)) fun _ => bd (mOp gDiv (pu c5) (pu (840 : Int))) fun v_cell_here_7 => pu (.nx v_cell_here_7)) (pu (.nx c5))) fun g8 => pu (.nx g8)) xs v_cell_here_4) fun g9 => pu (.nx ())) (mThen (fun b : (Unit × List Int) => b) (bd (mMapO gRange1 (mCons (pu (10 : Int)) (pu ()))) fun xs => loopM (fun (c10 : Int) (x11 : Int) => bd (mOp gMod (mMapO (fun x : Int × Unit => some x.1) ((mCons (mOp (gI (· + ·)) (mOp (gI (· + ·)) (mOp gMul (pu c10) (pu (69069 : Int))) (mOp gMul (pu (104729 : Int)) (mOp (gI (· + ·)) (pu x2) (pu x11)))) (pu (1 : Int))) (pu ())))) (pu (4294967291 : Int))) fun v_cell_here_12 => bd (bd (mOp gMod (mMapO (fun x : Int × Unit => some x.1) ((mCons (mOp gDiv (pu v_cell_here_12) (pu (5003 : Int))) (pu ())))) (pu (840 : Int))) (mUpd (fun b : (Unit × List Int) => b.2) (fun (b : (Unit × List Int)) l => (b.1, l)) gApp)) fun _ => pu (.nx v_cell_here_12)) xs v_cell_here_4) fun g13 => pu (.nx ()))) fun g14 => pu (.nx ())) xs ()) fun g15 => (frzM fun l16 : List Int => mRet (pu l16))))
def m_law_row (v_script : Scr) (v_first : Int) (v_last : Int) : M Unit Unit (List Int) := retM (mb_law_row v_script v_first v_last)

def mb_law_draw (v_many : Int) : M Bx Bx (Fl Unit Int) :=
  bd ((fun b : Bx => some (((fun b : Bx => b) b).2, b))) fun v_at_1 => bd (bd (mOp (gI (· + ·)) (pu v_at_1) (pu (1 : Int))) fun x => fun b => some ((), (fun (b : Bx) (c : Bx) => c) b (((fun b : Bx => b) b).1, x))) fun _ => mThen (fun b : Bx => b) (mIf (mOp (gB fun i j => decide (i < j)) (pu v_at_1) (mMapO (fun x : (List Int) × Unit => some (x.1.length : Int)) ((mCons ((fun b : Bx => some (((fun b : Bx => b) b).1, b))) (pu ()))))) (mRet (mOp gMod (mMapO (fun x : Int × Unit => some x.1) ((mCons (mOp (fun (x : (List Int)) (i : Int) => atI x i) ((fun b : Bx => some (((fun b : Bx => b) b).1, b))) (pu v_at_1)) (pu ())))) (pu v_many))) (pu (.nx ()))) fun g2 => mRet (mOp gMod (mMapO (fun x : Int × Unit => some x.1) ((mCons (mOp (gI (· + ·)) (mOp gMul (pu v_at_1) (pu (5 : Int))) (pu (1 : Int))) (pu ())))) (pu v_many))
def m_law_draw (v_many : Int) : M Bx Bx Int := retM (mb_law_draw v_many)

def mb_law_due (v_one : Tx) (v_two : Tx) : M Unit Unit (Fl Unit (Option (T3 Int Int Tx))) :=
  mThen (fun b : Unit => b) (mIf (mOp gEqS (pu v_one) (pu v_two)) (mRet (pu (none : (Option (T3 Int Int Tx))))) (pu (.nx ()))) fun g1 => bd (pu (0 : Int)) fun v_p_2 => mThen (fun b : Unit => b) (bd (mMapO gRange1 (mCons (mMapO gMin2 ((mCons (mMapO gLenT ((mCons (pu v_one) (pu ())))) (mCons (mMapO gLenT ((mCons (pu v_two) (pu ())))) (pu ()))))) (pu ()))) fun xs => loopM (fun (c3 : Int) (x4 : Int) => mThen (fun b : Unit => b) (mIf (mAnd (mOp gEqS (pu c3) (pu x4)) (mOp gEqS (mOp gIxS (pu v_one) (pu x4)) (mOp gIxS (pu v_two) (pu x4)))) (bd (mOp (gI (· + ·)) (pu c3) (pu (1 : Int))) fun v_p_5 => pu (.nx v_p_5)) (pu (.nx c3))) fun g6 => pu (.nx g6)) xs v_p_2) fun g7 => bd (pu (0 : Int)) fun v_q_8 => mThen (fun b : Unit => b) (bd (mMapO gRange1 (mCons (mOp (gI (· - ·)) (mMapO gMin2 ((mCons (mMapO gLenT ((mCons (pu v_one) (pu ())))) (mCons (mMapO gLenT ((mCons (pu v_two) (pu ())))) (pu ()))))) (pu g7)) (pu ()))) fun xs => loopM (fun (c9 : Int) (x10 : Int) => mThen (fun b : Unit => b) (mIf (mAnd (mOp gEqS (pu c9) (pu x10)) (mOp gEqS (mOp gIxS (pu v_one) (mOp (gI (· - ·)) (mOp (gI (· - ·)) (mMapO gLenT ((mCons (pu v_one) (pu ())))) (pu (1 : Int))) (pu x10))) (mOp gIxS (pu v_two) (mOp (gI (· - ·)) (mOp (gI (· - ·)) (mMapO gLenT ((mCons (pu v_two) (pu ())))) (pu (1 : Int))) (pu x10))))) (bd (mOp (gI (· + ·)) (pu c9) (pu (1 : Int))) fun v_q_11 => pu (.nx v_q_11)) (pu (.nx c9))) fun g12 => pu (.nx g12)) xs v_q_8) fun g13 => mRet (mMap some (mMap pr3 ((mCons (pu g7) (mCons (mOp (gI (· - ·)) (mOp (gI (· - ·)) (mMapO gLenT ((mCons (pu v_one) (pu ())))) (pu g7)) (pu g13)) (mCons (mSl gCut (pu v_two) (mMap some (pu g7)) (mMap some (mOp (gI (· - ·)) (mMapO gLenT ((mCons (pu v_two) (pu ())))) (pu g13)))) (pu ())))))))
def m_law_due (v_one : Tx) (v_two : Tx) : M Unit Unit (Option (T3 Int Int Tx)) := retM (mb_law_due v_one v_two)

def mb_law (v_script : Scr) : M Unit Unit (Fl Unit Bool) :=
  bd (bd (mCons (pu v_script) (mCons (pu (0 : Int)) (mCons (pu (50 : Int)) (pu ())))) fun x => zoom (fun _ => ()) (fun b _ => b) (m_law_row x.1 x.2.1 x.2.2.1)) fun r => newB (mThen (fun _ : Bx => ()) (bd (mMapO gRange1 (mCons (pu (20 : Int)) (pu ()))) fun xs => loopM (fun (c1 : Unit) (x2 : Int) => bd (mOp gJoin (pu ([] : Tx)) ((mCons (mLc (mMapO gRange1 (mCons (bd (mCons (pu (9 : Int)) (pu ())) fun x => zoom (fun b : Bx => b) (fun (b : Bx) (c : Bx) => c) (m_law_draw x.1)) (pu ()))) (fun x3 : Int => pu true) (fun x3 : Int => mOp gIxS (pu ([97, 98, 32, 10] : Tx)) (bd (mCons (pu (4 : Int)) (pu ())) fun x => zoom (fun b : Bx => b) (fun (b : Bx) (c : Bx) => c) (m_law_draw x.1)))) (pu ())))) fun v_one_4 => bd (pu v_one_4) fun v_two_5 => mThen (fun b : Bx => b) (bd (mMapO gRange1 (mCons (bd (mCons (pu (3 : Int)) (pu ())) fun x => zoom (fun b : Bx => b) (fun (b : Bx) (c : Bx) => c) (m_law_draw x.1)) (pu ()))) fun xs => loopM (fun (c6 : Tx) (x7 : Int) => bd (mOp gMod (mMapO (fun x : Int × Unit => some x.1) ((mCons (bd (mCons (pu (60 : Int)) (pu ())) fun x => zoom (fun b : Bx => b) (fun (b : Bx) (c : Bx) => c) (m_law_draw x.1)) (pu ())))) (mOp (gI (· + ·)) (mMapO gLenT ((mCons (pu c6) (pu ())))) (pu (1 : Int)))) fun v_at_8 => bd (mOp gCat (mOp gCat (mSl gCut (pu c6) (pu none) (mMap some (pu v_at_8))) (mOp gRep (mOp gIxS (pu ([97, 98, 32, 10] : Tx)) (bd (mCons (pu (4 : Int)) (pu ())) fun x => zoom (fun b : Bx => b) (fun (b : Bx) (c : Bx) => c) (m_law_draw x.1))) (bd (mCons (pu (3 : Int)) (pu ())) fun x => zoom (fun b : Bx => b) (fun (b : Bx) (c : Bx) => c) (m_law_draw x.1)))) (mSl gCut (pu c6) (mMap some (mOp (gI (· + ·)) (pu v_at_8) (bd (mCons (pu (3 : Int)) (pu ())) fun x => zoom (fun b : Bx => b) (fun (b : Bx) (c : Bx) => c) (m_law_draw x.1)))) (pu none))) fun v_two_9 => pu (.nx v_two_9)) xs v_two_5) fun g10 => bd (bd (mCons (pu v_one_4) (mCons (pu g10) (pu ()))) fun x => zoom (fun _ => ()) (fun b _ => b) (m_change x.1 x.2.1)) fun v_told_11 => mThen (fun b : Bx => b) (mIf (mOr (mOp gNeD (pu v_told_11) (bd (mCons (pu v_one_4) (mCons (pu g10) (pu ()))) fun x => zoom (fun _ => ()) (fun b _ => b) (m_law_due x.1 x.2.1))) (mOp gNeS (bd (mCons (pu v_one_4) (mCons (pu v_told_11) (pu ()))) fun x => zoom (fun _ => ()) (fun b _ => b) (m_changed x.1 x.2.1)) (pu g10))) (mRet (pu false)) (pu (.nx ()))) fun g12 => mThen (fun b : Bx => b) (mIf (mOp (fun (x : (Option (T3 Int Int Tx))) (_ : Unit) => some x.isSome) (pu v_told_11) (pu ())) (mThen (fun b : Bx => b) (bd (mMapO gRange1 (mCons (mOp (gI (· + ·)) (mMapO gLenT ((mCons (pu v_one_4) (pu ())))) (pu (1 : Int))) (pu ()))) fun xs => loopM (fun (c13 : Unit) (x14 : Int) => mThen (fun b : Bx => b) (bd (mMapO gRange1 (mCons (mMapO gMin2 ((mCons (mOp (fun (x : (T3 Int Int Tx)) (i : Int) => gK x.b 1 i) (mMapO (fun x : (Option (T3 Int Int Tx)) => x) (pu v_told_11)) (pu (1 : Int))) (mCons (mOp (gI (· - ·)) (mMapO gLenT ((mCons (pu v_one_4) (pu ())))) (pu x14)) (pu ()))))) (pu ()))) fun xs => loopM (fun (c15 : Unit) (x16 : Int) => bd (mOp (gI (· + ·)) (mOp (gI (· - ·)) (mMapO gLenT ((mCons (pu g10) (pu ())))) (mMapO gLenT ((mCons (pu v_one_4) (pu ()))))) (pu x16)) fun v_many_17 => mThen (fun b : Bx => b) (mIf (mAnd (mOp (gB fun i j => decide (j ≤ i)) (pu v_many_17) (pu (0 : Int))) (mAnd (mOp gEqS (mSl gCut (pu v_one_4) (pu none) (mMap some (pu x14))) (mSl gCut (pu g10) (pu none) (mMap some (pu x14)))) (mOp gEqS (mSl gCut (pu v_one_4) (mMap some (mOp (gI (· + ·)) (pu x14) (pu x16))) (pu none)) (mSl gCut (pu g10) (mMap some (mOp (gI (· + ·)) (pu x14) (pu v_many_17))) (pu none))))) (mRet (pu false)) (pu (.nx ()))) fun g18 => pu (.nx ())) xs ()) fun g19 => pu (.nx ())) xs ()) fun g20 => pu (.nx ())) (pu (.nx ()))) fun g21 => pu (.nx ())) xs ()) fun g22 => mRetD (fun _ : Bx => ()) (mOp gEqS (bd (mCons (pu ([97, 98, 99] : Tx)) (mCons (pu (none : (Option (T3 Int Int Tx)))) (pu ()))) fun x => zoom (fun _ => ()) (fun b _ => b) (m_changed x.1 x.2.1)) (pu ([97, 98, 99] : Tx)))) r
def m_law (v_script : Scr) : M Unit Unit Bool := retM (mb_law v_script)
end My

namespace My
open PySem L2 Tw
/-! ### the longest common beginning -/
def lcp : Tx → Tx → Nat
  | a :: x, b :: y => if a = b then lcp x y + 1 else 0
  | _, _ => 0
theorem lcp_le : ∀ x y : Tx, lcp x y ≤ x.length ∧ lcp x y ≤ y.length
  | [], y => by simp [lcp]
  | a :: x, [] => by simp [lcp]
  | a :: x, b :: y => by
    have := lcp_le x y
    unfold lcp
    split
    · simp only [List.length_cons]; omega
    · simp
theorem lcp_take : ∀ x y : Tx, x.take (lcp x y) = y.take (lcp x y)
  | [], y => by simp [lcp]
  | a :: x, [] => by simp [lcp]
  | a :: x, b :: y => by
    unfold lcp
    split
    · rename_i h
      subst h
      rw [List.take_succ_cons, List.take_succ_cons, lcp_take x y]
    · rfl
theorem lcp_max : ∀ (x y : Tx) (n : Nat), n ≤ x.length → n ≤ y.length → x.take n = y.take n → n ≤ lcp x y
  | _, _, 0, _, _, _ => Nat.zero_le _
  | [], _, n + 1, h, _, _ => by simp at h
  | a :: x, [], n + 1, _, h, _ => by simp at h
  | a :: x, b :: y, n + 1, h1, h2, h3 => by
    rw [List.take_succ_cons, List.take_succ_cons] at h3
    injection h3 with h4 h5
    unfold lcp
    rw [if_pos h4]
    have := lcp_max x y n (by simpa using h1) (by simpa using h2) h5
    omega
theorem lcp_at : ∀ (x y : Tx) (n : Nat), n ≤ lcp x y → (n < lcp x y ↔ (∃ a, x[n]? = some a ∧ y[n]? = some a))
  | [], y, n, h => by simp [lcp]
  | a :: x, [], n, h => by simp [lcp]
  | a :: x, b :: y, 0, h => by
    unfold lcp
    by_cases e : a = b
    · simp [e]
    · simp [e]
      exact fun h => e h.symm
  | a :: x, b :: y, n + 1, h => by
    unfold lcp at h ⊢
    by_cases e : a = b
    · rw [if_pos e] at h ⊢
      have := lcp_at x y n (by omega)
      simp only [List.getElem?_cons_succ]
      rw [← this]
      omega
    · rw [if_neg e] at h
      omega
/-! ### the signs at a place -/
theorem ixS_at {x : Tx} {i : Int} {k : Nat} {a : Nat} (hl : x.length ≤ line) (h : i = (k : Int)) (e : x[k]? = some a) : gIxS x i = some [a] := by
  unfold gIxS
  rw [if_pos hl, atI_of h, e]
  rfl
theorem lenT_ok {x : Tx} (h : x.length ≤ line) : gLenT (x, ()) = some (x.length : Int) := if_pos h
/-! ### _common -/
theorem common_loop {x y : Tx} (hx : x.length ≤ line) (hy : y.length ≤ line) : ∀ (n k : Nat), k ≤ lcp x y → x.length < n + k →
    whileM (ρ := Int) (β := Unit) (fun c2 : Int => mAnd (mOp (gB fun i j => decide (i < j)) (pu c2) (mMapO gMin2 ((mCons (mMapO gLenT ((mCons (pu x) (pu ())))) (mCons (mMapO gLenT ((mCons (pu y) (pu ())))) (pu ())))))) (mOp gEqS (mOp gIxS (pu x) (pu c2)) (mOp gIxS (pu y) (pu c2)))) (fun c2 : Int => bd (bd (pu (1 : Int)) fun y => ov (gI (· + ·) c2 y)) fun v_count_3 => pu (.nx v_count_3)) n (k : Int) = pu (.nx (lcp x y : Int))
  | 0, k, h1, h2 => by
    have := (lcp_le x y).1
    omega
  | n + 1, k, h1, h2 => by
    have l1 := lcp_le x y
    unfold whileM
    have e1 : mOp (β := Unit) (gB fun i j => decide (i < j)) (pu (k : Int)) (mMapO gMin2 ((mCons (mMapO gLenT ((mCons (pu x) (pu ())))) (mCons (mMapO gLenT ((mCons (pu y) (pu ())))) (pu ()))))) = pu (decide (k < min x.length y.length)) := by
      simp only [mOp, mMapO, mCons, bd_pu, lenT_ok hx, lenT_ok hy, ov_get, gMin2, gB]
      congr 1
      by_cases h : (y.length : Int) < x.length
      · rw [if_pos h]; apply decide_eq_decide.mpr; omega
      · rw [if_neg h]; apply decide_eq_decide.mpr; omega
    by_cases hk : k < min x.length y.length
    · have g1 : x[k]? = some x[k] := List.getElem?_eq_getElem (by omega)
      have g2 : y[k]? = some y[k] := List.getElem?_eq_getElem (by omega)
      have e2 : mOp (β := Unit) gEqS (mOp gIxS (pu x) (pu (k : Int))) (mOp gIxS (pu y) (pu (k : Int))) = pu (decide (k < lcp x y)) := by
        simp only [mOp, bd_pu, ixS_at hx rfl g1, ixS_at hy rfl g2, ov_get, gEqS_tx]
        congr 1
        apply decide_eq_decide.mpr
        rw [lcp_at x y k h1, g1, g2]
        simp
        exact eq_comm
      simp only [mAnd, e1, e2, bd_pu, hk, decide_true, if_true]
      by_cases hlt : k < lcp x y
      · simp only [hlt, decide_true, if_true, bd_pu, gI, ov_get]
        have := common_loop hx hy n (k + 1) hlt (by omega)
        rw [← this]
        rfl
      · have : k = lcp x y := by omega
        simp only [hlt, decide_false, Bool.false_eq_true, if_false]
        rw [this]
    · have : k = lcp x y := by
        have := lcp_at x y k h1
        omega
      simp only [mAnd, e1, bd_pu, hk, decide_false, Bool.false_eq_true, if_false]
      rw [this]
theorem common_eq {x y : Tx} (hx : x.length ≤ line) (hy : y.length ≤ line) : m_common x y = pu (lcp x y : Int) := by
  unfold m_common mb_common
  rw [bd_pu, show (0 : Int) = ((0 : Nat) : Int) from rfl, common_loop hx hy (x.length + 1) 0 (Nat.zero_le _) (by omega)]
  rfl
/-! ### change, changed -/
def lcs (x y : Tx) : Nat := lcp x.reverse y.reverse
def chg (x y : Tx) : Option (T3 Int Int Tx) :=
  if x = y then none else
    let p := lcp x y
    let q := lcs (x.drop p) (y.drop p)
    some ⟨p, (x.length : Int) - p - q, (y.take (y.length - q)).drop p⟩
theorem lcs_le (x y : Tx) : lcs x y ≤ x.length ∧ lcs x y ≤ y.length := by
  have := lcp_le x.reverse y.reverse
  unfold lcs
  simpa using this
theorem gCut_ok {x : Tx} (h : x.length ≤ line) (lo hi : Option Int) : gCut x lo hi = some (cut x lo hi) := if_pos h
theorem gRevS_ok {x : Tx} (h : x.length ≤ line) : gRevS x = some x.reverse := if_pos h
theorem change_eq {x y : Tx} (hx : x.length ≤ line) (hy : y.length ≤ line) : m_change x y = pu (chg x y) := by
  have l1 := lcp_le x y
  unfold m_change mb_change
  by_cases e : x = y
  · simp [chg, e]
  · have l2 := lcs_le (x.drop (lcp x y)) (y.drop (lcp x y))
    simp only [List.length_drop] at l2
    have c1 : cut x (some (lcp x y : Int)) none = x.drop (lcp x y) := by rw [cut_from (by omega)]; simp
    have c2 : cut y (some (lcp x y : Int)) none = y.drop (lcp x y) := by rw [cut_from (by omega)]; simp
    have d1 : (x.drop (lcp x y)).length ≤ line := by rw [List.length_drop]; omega
    have d2 : (y.drop (lcp x y)).length ≤ line := by rw [List.length_drop]; omega
    have e3 : m_common (x.drop (lcp x y)).reverse (y.drop (lcp x y)).reverse = pu (lcs (x.drop (lcp x y)) (y.drop (lcp x y)) : Int) := common_eq (by simpa using d1) (by simpa using d2)
    have c3 : cut y (some (lcp x y : Int)) (some ((y.length : Int) - (lcs (x.drop (lcp x y)) (y.drop (lcp x y)) : Int))) = (y.take (y.length - lcs (x.drop (lcp x y)) (y.drop (lcp x y)))).drop (lcp x y) := by
      rw [cut_mid (by omega) (by omega)]
      simp only [Int.toNat_natCast]
      congr 2
      omega
    simp [chg, e, common_eq hx hy, zoom_pu, gCut_ok hx, gCut_ok hy, c1, c2, c3, gRevS_ok d1, gRevS_ok d2, e3, lenT_ok hx, lenT_ok hy, pr3]
theorem lcs_drop (x y : Tx) : x.drop (x.length - lcs x y) = y.drop (y.length - lcs x y) := by
  have h := lcp_take x.reverse y.reverse
  have l := lcs_le x y
  unfold lcs at l ⊢
  rw [List.take_reverse, List.take_reverse] at h
  exact List.reverse_inj.mp h
theorem chg_back {x y : Tx} : match chg x y with | none => x = y | some t => 0 ≤ t.a ∧ 0 ≤ t.b ∧ x.take t.a.toNat ++ t.c ++ x.drop (t.a + t.b).toNat = y ∧ t.a.toNat ≤ x.length ∧ t.c.length ≤ y.length := by
  unfold chg
  by_cases e : x = y
  · rw [if_pos e]; exact e
  · rw [if_neg e]
    have l1 := lcp_le x y
    have l2 := lcs_le (x.drop (lcp x y)) (y.drop (lcp x y))
    have h1 := lcp_take x y
    have h2 := lcs_drop (x.drop (lcp x y)) (y.drop (lcp x y))
    simp only [List.length_drop, List.drop_drop] at l2 h2
    show (0 : Int) ≤ (lcp x y : Int) ∧ 0 ≤ (x.length : Int) - (lcp x y : Int) - (lcs (x.drop (lcp x y)) (y.drop (lcp x y)) : Int) ∧ x.take (lcp x y : Int).toNat ++ (y.take (y.length - lcs (x.drop (lcp x y)) (y.drop (lcp x y)))).drop (lcp x y) ++ x.drop ((lcp x y : Int) + ((x.length : Int) - (lcp x y : Int) - (lcs (x.drop (lcp x y)) (y.drop (lcp x y)) : Int))).toNat = y ∧ (lcp x y : Int).toNat ≤ x.length ∧ ((y.take (y.length - lcs (x.drop (lcp x y)) (y.drop (lcp x y)))).drop (lcp x y)).length ≤ y.length
    generalize lcs (x.drop (lcp x y)) (y.drop (lcp x y)) = q at l2 h2 ⊢
    generalize lcp x y = p at l1 h1 l2 h2 ⊢
    refine ⟨by omega, by omega, ?_, by omega, by simp; omega⟩
    have e1 : ((p : Int) + ((x.length : Int) - p - q)).toNat = p + (x.length - p - q) := by omega
    rw [e1, h2, Int.toNat_natCast, h1]
    have e2 : p + (y.length - p - q) = y.length - q := by omega
    rw [e2]
    have e3 : y.take p = (y.take (y.length - q)).take p := by rw [List.take_take, Nat.min_eq_left (by omega)]
    rw [e3, List.take_append_drop, List.take_append_drop]
def app (x : Tx) : Option (T3 Int Int Tx) → Tx
  | none => x
  | some u => x.take u.a.toNat ++ u.c ++ x.drop (u.a + u.b).toNat
theorem changed_eq {x : Tx} {t : Option (T3 Int Int Tx)} (hx : x.length ≤ line) (h : ∀ u, t = some u → 0 ≤ u.a ∧ 0 ≤ u.b ∧ x.length + u.c.length ≤ line ∧ (x.take u.a.toNat ++ u.c ++ x.drop (u.a + u.b).toNat).length ≤ line) :
    m_changed x t = pu (app x t) := by
  unfold m_changed mb_changed
  cases t with
  | none => rfl
  | some u =>
    obtain ⟨h1, h2, h3, h4⟩ := h u rfl
    have c1 : cut x none (some u.a) = x.take u.a.toNat := cut_to h1
    have c2 : cut x (some (u.a + u.b)) none = x.drop (u.a + u.b).toNat := cut_from (by omega)
    have g1 : gCat (x.take u.a.toNat) u.c = some (x.take u.a.toNat ++ u.c) := gCat_ok (by
      have : (x.take u.a.toNat).length ≤ x.length := by simp; omega
      omega)
    have g2 : gCat (x.take u.a.toNat ++ u.c) (x.drop (u.a + u.b).toNat) = some (x.take u.a.toNat ++ u.c ++ x.drop (u.a + u.b).toNat) := gCat_ok (by rw [← List.length_append]; exact h4)
    simp [gCut_ok hx, c1, c2, g1, g2, app]
/-! ### the law's draws -/
theorem gMod_ok {x y : Int} (h : 0 < y) : gMod x y = some (x % y) := if_pos h
theorem gDiv_ok {x y : Int} (h : 0 < y ∧ y < 1073741824) : gDiv x y = some (x / y) := if_pos h
theorem gMul_ok {x y : Int} (h : -(2 ^ 64) < y ∧ y < 2 ^ 64) : gMul x y = some (x * y) := if_pos (.inr h)
theorem gMul_ok' {x y : Int} (h : -(2 ^ 64) < x ∧ x < 2 ^ 64) : gMul x y = some (x * y) := if_pos (.inl h)
theorem draw_ok {n : Int} (h : 0 < n) : Tot BxOk (m_law_draw n) fun v => 0 ≤ v ∧ v < n := fun b i => by
  obtain ⟨row, at_⟩ := b
  have i : 0 ≤ at_ := i
  have mod : ∀ v : Int, 0 ≤ v % n ∧ v % n < n := fun v => ⟨Int.emod_nonneg _ (by omega), Int.emod_lt_of_pos _ h⟩
  unfold m_law_draw mb_law_draw
  by_cases hl : at_ < (row.length : Int)
  · have e : atI row at_ = some row[at_.toNat] := by
      rw [atI_of (k := at_.toNat) (by omega), List.getElem?_eq_getElem (by omega)]
    refine ⟨row[at_.toNat] % n, (row, at_ + 1), ?_, (show 0 ≤ at_ + 1 by omega), mod _⟩
    simp [bd, mOp, mMapO, mCons, mThen, mIf, mRet, retM, pu, ov, gB, gI, hl, e, gMod_ok h]
  · refine ⟨(at_ * 5 + 1) % n, (row, at_ + 1), ?_, (show 0 ≤ at_ + 1 by omega), mod _⟩
    simp [bd, mOp, mMapO, mCons, mThen, mIf, mRet, retM, pu, ov, gB, gI, hl, gMod_ok h, gMul_ok (show -(2 ^ 64) < (5 : Int) ∧ (5 : Int) < 2 ^ 64 by decide)]
theorem cell_ok (ns : List Int) {k : Int} (h : 0 ≤ k) : ∃ v, m_law_cell ⟨ns⟩ k = pu v := by
  unfold m_law_cell mb_law_cell
  by_cases hl : k < (ns.length : Int)
  · have e : atI ns k = some ns[k.toNat] := by
      rw [atI_of (k := k.toNat) (by omega), List.getElem?_eq_getElem (by omega)]
    exact ⟨ns[k.toNat], by simp [gB, hl, e]⟩
  · exact ⟨0, by simp [gB, hl]⟩
theorem gApp_ok {l : List Int} {x : Int} (h : l.length < line) : gApp l x = some (l ++ [x]) := if_pos h
theorem row_ok (ns : List Int) (n : Int) (h : 0 ≤ n ∧ n ≤ 63) : ∃ r, m_law_row ⟨ns⟩ 0 n = pu r := by
  have key : Tri (fun _ : Unit => True) (m_law_row ⟨ns⟩ 0 n) fun r _ => True := by
    unfold m_law_row mb_law_row
    refine .retM (.newM (.then (J := fun _ _ => True) (.bd (Q := fun xs b => xs = rangeI 0 n ∧ b.2.length = 0) ?_ fun xs => .of (fun b h => h.1) fun e => ?_) fun g => .frzM fun l => (by rw [mRet_pu]; exact .pu fun _ _ => ⟨l, rfl, trivial⟩)))
    · simp only [mCons_pu, mMapO_pu, gRange2, ck62_ok (show -(2 ^ 62) ≤ (0 : Int) ∧ (0 : Int) < 2 ^ 62 by decide), ck62_ok (show -(2 ^ 62) ≤ n ∧ n < 2 ^ 62 by omega), Option.bind_some, Option.map_some, ov_get]
      exact .pu fun b hb => ⟨rfl, by rw [hb.2]; rfl⟩
    · subst e
      have hn : (rangeI 0 n).length ≤ 63 := by rw [rangeI_len]; omega
      refine ((Tri.loop (J := fun i _ b => b.2.length ≤ 60 * i) (rangeI 0 n) 0 fun j c x hx => ?_).pre fun b hb => by rw [hb.2]; exact Nat.zero_le _).imp fun o b ⟨c, e, _⟩ => ⟨c, e, trivial⟩
      have hj : j < 63 := by
        have := (List.getElem?_eq_some_iff.mp hx).1
        omega
      have hx0 : 0 ≤ x := (mem_rangeI (List.mem_of_getElem? hx)).1
      obtain ⟨v, hv⟩ := cell_ok ns hx0
      simp only [mCons_pu, bd_pu, hv, zoomU_pu, mOp_pu, mMapO_pu, gMul_ok' (show -(2 ^ 64) < (2 : Int) ∧ (2 : Int) < 2 ^ 64 by decide), ov_get, gAbs, gIntB, gB, gI, mIf_pu, show gPow 10 18 = some (10 ^ 18) from rfl, Nat.zero_add]
      generalize (if 2 * v < 0 then -(2 * v) else 2 * v) + _ = y
      have hln : 60 * 63 < line := by decide
      refine .then (J := fun _ b => b.2.length ≤ 60 * (j + 1)) (.ite (fun _ => ?_) fun _ => ?_) fun g => .pu fun b hb => ⟨(), rfl, hb⟩
      · refine .then (J := fun _ b => b.2.length ≤ 60 * (j + 1)) ?_ fun g => .pu fun b hb => ⟨(), rfl, hb⟩
        simp only [gRange1, ck62_ok (show -(2 ^ 62) ≤ (60 : Int) ∧ (60 : Int) < 2 ^ 62 by decide), Option.map_some, ov_get, bd_pu]
        refine (Tri.loop (β := Unit × List Int) (J := fun i (_ : Int) b => b.2.length ≤ 60 * j + i) (rangeI 0 60) 0 fun k c z hz => ?_).imp fun o b hb => ?_
        rotate_left
        · obtain ⟨c, e, hb⟩ := hb
          exact ⟨c, e, by rw [rangeI_len] at hb; simp at hb; omega⟩
        have hk : k < 60 := by
          have := (List.getElem?_eq_some_iff.mp hz).1
          rw [rangeI_len] at this
          simpa using this
        refine .then (J := fun _ b => b.2.length ≤ 60 * j + (0 + k + 1)) (.ite (fun _ => ?_) fun _ => .pu fun b hb => ⟨_, rfl, by omega⟩) fun g => .pu fun b hb => ⟨_, rfl, hb⟩
        simp only [gMod_ok (show (0 : Int) < 840 by decide), gDiv_ok (show (0 : Int) < 840 ∧ (840 : Int) < 1073741824 by decide), ov_get, bd_pu]
        exact .bd (Q := fun _ b => b.2.length ≤ 60 * j + (0 + k + 1)) (.upd fun b hb => ⟨_, gApp_ok (by omega), by simp; omega⟩) fun _ => .pu fun b hb => ⟨_, rfl, hb⟩
      · refine .then (J := fun _ b => b.2.length ≤ 60 * (j + 1)) ?_ fun g => .pu fun b hb => ⟨(), rfl, hb⟩
        simp only [gRange1, ck62_ok (show -(2 ^ 62) ≤ (10 : Int) ∧ (10 : Int) < 2 ^ 62 by decide), Option.map_some, ov_get, bd_pu]
        refine (Tri.loop (β := Unit × List Int) (J := fun i (_ : Int) b => b.2.length ≤ 60 * j + i) (rangeI 0 10) 0 fun k c z hz => ?_).imp fun o b hb => ?_
        rotate_left
        · obtain ⟨c, e, hb⟩ := hb
          exact ⟨c, e, by rw [rangeI_len] at hb; simp at hb; omega⟩
        have hk : k < 10 := by
          have := (List.getElem?_eq_some_iff.mp hz).1
          rw [rangeI_len] at this
          simpa using this
        simp only [gMul_ok (show -(2 ^ 64) < (69069 : Int) ∧ (69069 : Int) < 2 ^ 64 by decide), gMul_ok' (show -(2 ^ 64) < (104729 : Int) ∧ (104729 : Int) < 2 ^ 64 by decide), ov_get, bd_pu, mOp_pu, mCons_pu, mMapO_pu, gMod_ok (show (0 : Int) < 4294967291 by decide), gMod_ok (show (0 : Int) < 840 by decide), gDiv_ok (show (0 : Int) < 5003 ∧ (5003 : Int) < 1073741824 by decide)]
        exact .bd (Q := fun _ b => b.2.length ≤ 60 * j + (0 + k + 1)) (.upd fun b hb => ⟨_, gApp_ok (by omega), by simp; omega⟩) fun _ => .pu fun b hb => ⟨_, rfl, hb⟩
  obtain ⟨r, e, _⟩ := key.pure_
  exact ⟨r, e⟩
/-! ### _law_due -/
theorem rangeI_zero (m : Nat) : rangeI 0 (m : Int) = (List.range m).map fun (k : Nat) => (k : Int) := by
  unfold rangeI
  simp
theorem run_fold (P : Nat → Bool) (L m : Nat) (hL : L ≤ m) (h : ∀ k, k ≤ L → k < m → (P k = true ↔ k < L)) : (rangeI 0 (m : Int)).foldl (fun (c k : Int) => if (decide (c = k) && P k.toNat) = true then c + 1 else c) 0 = (L : Int) := by
  have key : ∀ j, j ≤ m → (rangeI 0 (j : Int)).foldl (fun (c k : Int) => if (decide (c = k) && P k.toNat) = true then c + 1 else c) 0 = ((min j L : Nat) : Int) := by
    intro j
    induction j with
    | zero => intro _; simp [rangeI]
    | succ j ih =>
      intro hj
      have ih := ih (by omega)
      rw [rangeI_zero] at ih ⊢
      rw [List.range_succ, List.map_append, List.foldl_append, ih]
      simp only [List.map_cons, List.map_nil, List.foldl_cons, List.foldl_nil, Int.toNat_natCast, Bool.and_eq_true, decide_eq_true_eq]
      by_cases hjl : j ≤ L
      · have hm : min j L = j := Nat.min_eq_left hjl
        rw [hm]
        by_cases hp : P j = true
        · have := (h j hjl (by omega)).mp hp
          rw [if_pos ⟨rfl, hp⟩]
          omega
        · have : ¬ j < L := fun z => hp ((h j hjl (by omega)).mpr z)
          rw [if_neg fun z => hp z.2]
          omega
      · rw [if_neg fun z => by omega]
        omega
  rw [key m (Nat.le_refl _), Nat.min_eq_right hL]
theorem gIxS_some {x : Tx} {i : Int} {k : Nat} (hl : x.length ≤ line) (h : i = (k : Int)) (hk : k < x.length) : gIxS x i = some [x[k]] := ixS_at hl h (List.getElem?_eq_getElem hk)
theorem min2_nat (a b : Nat) : gMin2 ((a : Int), (b : Int), ()) = some ((min a b : Nat) : Int) := by
  unfold gMin2
  congr 1
  by_cases h : (b : Int) < a
  · simp only [h, if_true]; omega
  · simp only [h, if_false]; omega
theorem due_eq {x y : Tx} (hx : x.length ≤ line) (hy : y.length ≤ line) : m_law_due x y = pu (chg x y) := by
  have l1 := lcp_le x y
  have hb : (16777216 : Int) < 2 ^ 62 := by decide
  unfold m_law_due mb_law_due
  by_cases e : x = y
  · simp [chg, e]
  · have l2 := lcs_le (x.drop (lcp x y)) (y.drop (lcp x y))
    simp only [List.length_drop] at l2
    have r1 : gRange1 (((min x.length y.length : Nat) : Int), ()) = some (rangeI 0 ((min x.length y.length : Nat) : Int)) := by
      unfold gRange1
      rw [ck62_ok ⟨by omega, by simp only [line] at *; omega⟩]
      rfl
    have p1 : loopM (ρ := Option (T3 Int Int Tx)) (β := Unit) (fun (c3 : Int) (x4 : Int) => mThen (fun b : Unit => b) (mIf (mAnd (mOp gEqS (pu c3) (pu x4)) (mOp gEqS (mOp gIxS (pu x) (pu x4)) (mOp gIxS (pu y) (pu x4)))) (bd (mOp (gI (· + ·)) (pu c3) (pu (1 : Int))) fun v_p_5 => pu (.nx v_p_5)) (pu (.nx c3))) fun g6 => pu (.nx g6)) (rangeI 0 ((min x.length y.length : Nat) : Int)) 0 = pu (.nx (lcp x y : Int)) := by
      rw [loopM_pure (g := fun (c k : Int) => if (decide (c = k) && decide (x[k.toNat]? = y[k.toNat]?)) = true then c + 1 else c), run_fold (fun k => decide (x[k]? = y[k]?)) (lcp x y) _ (by omega)]
      · intro k hk hm
        rw [lcp_at x y k hk, List.getElem?_eq_getElem (by omega : k < x.length), List.getElem?_eq_getElem (by omega : k < y.length)]
        simp
        exact eq_comm
      · intro c k hk
        have := mem_rangeI hk
        have hk1 : k.toNat < x.length := by omega
        have hk2 : k.toNat < y.length := by omega
        rw [mOp_pu, gEqS_int, ov_get, mAnd_pu, mOp_pu, mOp_pu, gIxS_some hx (show k = (k.toNat : Int) by omega) hk1, gIxS_some hy (show k = (k.toNat : Int) by omega) hk2]
        simp only [ov_get, mOp_pu, gEqS_tx, List.getElem?_eq_getElem hk1, List.getElem?_eq_getElem hk2]
        by_cases h1 : c = k
        · by_cases h2 : x[k.toNat] = y[k.toNat]
          · simp [h1, h2, gI]
          · simp [h1, h2, gI]
        · simp [h1, gI]
    have r2 : gRange1 (((min x.length y.length : Nat) : Int) - (lcp x y : Int), ()) = some (rangeI 0 ((min x.length y.length - lcp x y : Nat) : Int)) := by
      unfold gRange1
      rw [ck62_ok ⟨by omega, by simp only [line] at *; omega⟩]
      exact congrArg (fun z => some (rangeI 0 z)) (by omega)
    have p2 : loopM (ρ := Option (T3 Int Int Tx)) (β := Unit) (fun (c9 : Int) (x10 : Int) => mThen (fun b : Unit => b) (mIf (mAnd (mOp gEqS (pu c9) (pu x10)) (mOp gEqS (mOp gIxS (pu x) (mOp (gI (· - ·)) (mOp (gI (· - ·)) (mMapO gLenT ((mCons (pu x) (pu ())))) (pu (1 : Int))) (pu x10))) (mOp gIxS (pu y) (mOp (gI (· - ·)) (mOp (gI (· - ·)) (mMapO gLenT ((mCons (pu y) (pu ())))) (pu (1 : Int))) (pu x10))))) (bd (mOp (gI (· + ·)) (pu c9) (pu (1 : Int))) fun v_q_11 => pu (.nx v_q_11)) (pu (.nx c9))) fun g12 => pu (.nx g12)) (rangeI 0 ((min x.length y.length - lcp x y : Nat) : Int)) 0 = pu (.nx (lcs (x.drop (lcp x y)) (y.drop (lcp x y)) : Int)) := by
      rw [loopM_pure (g := fun (c k : Int) => if (decide (c = k) && decide (x[x.length - 1 - k.toNat]? = y[y.length - 1 - k.toNat]?)) = true then c + 1 else c), run_fold (fun k => decide (x[x.length - 1 - k]? = y[y.length - 1 - k]?)) (lcs (x.drop (lcp x y)) (y.drop (lcp x y))) _ (by omega)]
      · intro k hk hm
        have h1 : (x.drop (lcp x y)).reverse[k]? = x[x.length - 1 - k]? := by
          rw [List.getElem?_reverse (by rw [List.length_drop]; omega), List.getElem?_drop, List.length_drop]
          exact congrArg (fun z => x[z]?) (by omega)
        have h2 : (y.drop (lcp x y)).reverse[k]? = y[y.length - 1 - k]? := by
          rw [List.getElem?_reverse (by rw [List.length_drop]; omega), List.getElem?_drop, List.length_drop]
          exact congrArg (fun z => y[z]?) (by omega)
        have := lcp_at (x.drop (lcp x y)).reverse (y.drop (lcp x y)).reverse k hk
        unfold lcs
        rw [this, h1, h2, List.getElem?_eq_getElem (by omega : x.length - 1 - k < x.length), List.getElem?_eq_getElem (by omega : y.length - 1 - k < y.length)]
        simp
        exact eq_comm
      · intro c k hk
        have := mem_rangeI hk
        have hk1 : x.length - 1 - k.toNat < x.length := by omega
        have hk2 : y.length - 1 - k.toNat < y.length := by omega
        simp only [mCons_pu, mMapO_pu, lenT_ok hx, lenT_ok hy, ov_get, mOp_pu, gI, gEqS_int, mAnd_pu, gIxS_some hx (show (x.length : Int) - 1 - k = ((x.length - 1 - k.toNat : Nat) : Int) by omega) hk1, gIxS_some hy (show (y.length : Int) - 1 - k = ((y.length - 1 - k.toNat : Nat) : Int) by omega) hk2, gEqS_tx, List.getElem?_eq_getElem hk1, List.getElem?_eq_getElem hk2]
        by_cases h1 : c = k
        · by_cases h2 : x[x.length - 1 - k.toNat] = y[y.length - 1 - k.toNat]
          · simp [h1, h2]
          · simp [h1, h2]
        · simp [h1]
    have c3 : cut y (some (lcp x y : Int)) (some ((y.length : Int) - (lcs (x.drop (lcp x y)) (y.drop (lcp x y)) : Int))) = (y.take (y.length - lcs (x.drop (lcp x y)) (y.drop (lcp x y)))).drop (lcp x y) := by
      rw [cut_mid (by omega) (by omega)]
      simp only [Int.toNat_natCast]
      exact congrArg (fun z => (y.take z).drop (lcp x y)) (by omega)
    rw [mOp_pu, gEqS_tx, decide_eq_false e]
    simp only [ov_get, mIf_pu, Bool.false_eq_true, if_false, mThen_nx, bd_pu]
    rw [show mMapO (β := Unit) gMin2 (mCons (mMapO gLenT (mCons (pu x) (pu ()))) (mCons (mMapO gLenT (mCons (pu y) (pu ()))) (pu ()))) = pu ((min x.length y.length : Nat) : Int) by simp [lenT_ok hx, lenT_ok hy, min2_nat]]
    rw [show mMapO (β := Unit) gRange1 (mCons (pu ((min x.length y.length : Nat) : Int)) (pu ())) = pu (rangeI 0 ((min x.length y.length : Nat) : Int)) by rw [mCons_pu, mMapO_pu, r1]; rfl, bd_pu, p1, mThen_nx]
    rw [show mMapO (β := Unit) gRange1 (mCons (mOp (gI (· - ·)) (pu ((min x.length y.length : Nat) : Int)) (pu (lcp x y : Int))) (pu ())) = pu (rangeI 0 ((min x.length y.length - lcp x y : Nat) : Int)) by rw [mOp_pu]; simp only [gI, ov_get, mCons_pu, mMapO_pu]; rw [r2]; rfl, bd_pu, p2, mThen_nx]
    simp [chg, e, lenT_ok hx, lenT_ok hy, gCut_ok hy, c3, pr3, gI]
/-! ### the law -/
theorem newB_end {γ' : Type} {L : M Bx Bx (Fl γ' Bool)} {k : γ' → M Bx Unit (Fl Unit Bool)} (r : List Int) (h : Tot BxOk L fun o => ∃ c', o = .nx c' ∧ True) (hk : ∀ c b, k c b = some (.rt true, ())) : retM (newB (mThen (fun _ : Bx => ()) L k) r) () = some (true, ()) := by
  obtain ⟨o, b', e, _, c', rfl, _⟩ := h (r, 0) (show (0 : Int) ≤ 0 by decide)
  have : newB (mThen (fun _ : Bx => ()) L k) r () = some (.rt true, ()) := by
    show mThen (fun _ : Bx => ()) L k (r, 0) = _
    unfold mThen
    rw [bd_ap e]
    exact hk c' b'
  unfold retM
  rw [bd_ap this]
  rfl
def Gd (n : Nat) (x : Tx) : Prop := x.length ≤ n ∧ ∀ c ∈ x, c < 0x110000
theorem Gd.ok {n : Nat} {x : Tx} (h : Gd n x) : okT x = true := by
  unfold okT
  rw [List.all_eq_true]
  exact fun c hc => decide_eq_true (h.2 c hc)
theorem Tot.gIx {w : Tx} (hw : w.length ≤ line) (hc : ∀ c ∈ w, c < 0x110000) {n : Int} (hn : 0 < n) (hl : n ≤ w.length) {m : M Bx Bx Int} (h : Tot BxOk m fun v => 0 ≤ v ∧ v < n) : Tot BxOk (mOp gIxS (pu w) m) fun s => ∃ c, s = [c] ∧ c < 0x110000 := by
  unfold mOp
  rw [bd_pu]
  refine .bd h fun v hv => ?_
  have hk : v.toNat < w.length := by omega
  rw [gIxS_some hw (show v = (v.toNat : Int) by omega) hk]
  exact .pu ⟨_, rfl, hc _ (List.getElem_mem hk)⟩
theorem range1_ok {n : Int} (h : 0 ≤ n ∧ n < 1000000) : gRange1 (n, ()) = some (rangeI 0 n) := by
  have : (1000000 : Int) < 2 ^ 62 := by decide
  unfold gRange1
  rw [show ck62 (n, ()).1 = some n from ck62_ok ⟨by omega, by omega⟩]
  rfl
theorem Tot.rangeD {m : M Bx Bx Int} {n : Int} (h : Tot BxOk m fun v => 0 ≤ v ∧ v < n) (hn : n ≤ 1000000) : Tot BxOk (mMapO gRange1 (mCons m (pu ()))) fun xs => ∃ v, xs = rangeI 0 v ∧ 0 ≤ v ∧ v < n := by
  unfold mMapO mCons
  refine .bd (Q := fun z : Int × Unit => 0 ≤ z.1 ∧ z.1 < n) (.bd h fun v hv => .bd (.pu (Q := fun _ => True) trivial) fun u _ => .pu hv) fun ⟨v, _⟩ hv => ?_
  have hv : 0 ≤ v ∧ v < n := hv
  rw [range1_ok ⟨hv.1, by omega⟩]
  exact .pu ⟨v, rfl, hv⟩
theorem chk_le {α : Type} {l : List α} {n : Nat} (h : l.length ≤ n) (hn : n ≤ line) : chk l = some l := chk_ok (Nat.le_trans h hn)
theorem sum_le : ∀ {ys : List Tx} {k : Nat}, (∀ y ∈ ys, y.length ≤ k) → (ys.map (·.length)).sum ≤ ys.length * k
  | [], _, _ => by simp
  | y :: ys, k, h => by
    have h1 := h y List.mem_cons_self
    have h2 := sum_le (ys := ys) (k := k) fun z hz => h z (List.mem_cons_of_mem _ hz)
    simp only [List.map_cons, List.sum_cons, List.length_cons, Nat.succ_mul]
    omega
theorem flatten_one : ∀ {ys : List Tx}, (∀ s ∈ ys, ∃ c, s = [c] ∧ c < 0x110000) → ys.flatten.length = ys.length ∧ ∀ c ∈ ys.flatten, c < 0x110000
  | [], _ => ⟨rfl, fun _ h => nomatch h⟩
  | y :: ys, h => by
    obtain ⟨c, rfl, hc⟩ := h y List.mem_cons_self
    obtain ⟨h1, h2⟩ := flatten_one (ys := ys) fun z hz => h z (List.mem_cons_of_mem _ hz)
    refine ⟨by simp [h1], fun d hd => ?_⟩
    rcases List.mem_cons.mp (show d ∈ c :: ys.flatten from by simpa using hd) with rfl | hd
    · exact hc
    · exact h2 d hd
/-- "".join([w[draw(k)] for .. in range(draw(n))]) -/
theorem Tot.text {w : Tx} (hw : w.length ≤ 1000) (hc : ∀ c ∈ w, c < 0x110000) {k n : Int} (hk : 0 < k) (hl : k ≤ w.length) (hn : 0 < n ∧ n ≤ 1000) : Tot BxOk (mOp gJoin (pu ([] : Tx)) ((mCons (mLc (mMapO gRange1 (mCons (m_law_draw n) (pu ()))) (fun x3 : Int => pu true) (fun x3 : Int => mOp gIxS (pu w) (m_law_draw k))) (pu ())))) (Gd n.toNat) := by
  unfold mOp
  rw [bd_pu]
  refine .bd (Q := fun y : List Tx × Unit => y.1.length < n.toNat ∧ ∀ s ∈ y.1, ∃ c, s = [c] ∧ c < 0x110000) ?_ fun ⟨ys, _⟩ ⟨h1, h2⟩ => ?_
  · unfold mCons mLc
    refine .bd (Q := fun ys : List Tx => ys.length < n.toNat ∧ ∀ s ∈ ys, ∃ c, s = [c] ∧ c < 0x110000) (.bd (Q := fun xs : List Int => xs.length < n.toNat) ?_ fun xs hx => (Tot.map fun _ _ => Tot.gIx (Nat.le_trans hw (by decide)) hc hk hl (draw_ok hk)).imp fun ys h => ⟨by rw [h.1]; exact hx, h.2⟩) fun ys hys => .bd (.pu (Q := fun _ => True) trivial) fun _ _ => .pu hys
    unfold mMapO
    refine .bd (Q := fun xs : List Int => xs.length < n.toNat) ((Tot.rangeD (draw_ok hn.1) (by omega)).imp fun xs ⟨v, e, h⟩ => by rw [e, rangeI_len]; omega) fun xs hx => ?_
    have hx : xs.length < n.toNat := hx
    rw [chk_le (n := 1000) (by omega) (by decide)]
    exact .pu hx
  · have h1 : ys.length < n.toNat := h1
    have h2 : ∀ s ∈ ys, ∃ c, s = [c] ∧ c < 0x110000 := h2
    have hs : (ys.map (·.length)).sum ≤ line := by
      have := sum_le (ys := ys) (k := 1) fun y hy => by
        obtain ⟨c, rfl, _⟩ := h2 y hy
        exact Nat.le_refl _
      have : 1000 ≤ line := by decide
      omega
    have e : gJoin [] (ys, ()) = some ys.flatten := if_pos ⟨rfl, hs⟩
    rw [e]
    have := flatten_one h2
    exact .pu ⟨by omega, this.2⟩
theorem Gd.take {n : Nat} {x : Tx} (h : Gd n x) (k : Nat) : Gd n (x.take k) := ⟨by have := h.1; simp; omega, fun c hc => h.2 c (List.mem_of_mem_take hc)⟩
theorem Gd.drop {n : Nat} {x : Tx} (h : Gd n x) (k : Nat) : Gd n (x.drop k) := ⟨by have := h.1; simp; omega, fun c hc => h.2 c (List.mem_of_mem_drop hc)⟩
theorem Gd.app {n m : Nat} {x y : Tx} (h : Gd n x) (h' : Gd m y) : Gd (n + m) (x ++ y) := ⟨by have := h.1; have := h'.1; simp; omega, fun c hc => by
  rcases List.mem_append.mp hc with hc | hc
  · exact h.2 c hc
  · exact h'.2 c hc⟩
theorem gRep_ok {c : Nat} {n : Int} (h : 0 ≤ n ∧ n < 1000) : gRep [c] n = some (List.replicate n.toNat [c]).flatten := by
  unfold gRep
  have : (1000 : Int) < 2 ^ 63 := by decide
  have : 1000 ≤ line := by decide
  exact if_pos ⟨by omega, by omega, by simp; omega⟩
theorem rep_Gd {c : Nat} (hc : c < 0x110000) (n : Nat) : Gd n (List.replicate n [c]).flatten := by
  refine ⟨by simp, fun d hd => ?_⟩
  obtain ⟨l, hl, hd⟩ := List.mem_flatten.mp hd
  rw [(List.mem_replicate.mp hl).2] at hd
  have : d = c := by simpa using hd
  omega
/-- no other change takes less away -/
theorem chg_min {x y : Tx} {t : T3 Int Int Tx} (h : chg x y = some t) {p r : Nat} (hp : p ≤ x.length) (hr : (r : Int) < t.b) (hr2 : r < x.length - p) {m : Nat} (hm : (m : Int) = (y.length : Int) - x.length + r) :
    ¬ (x.take p = y.take p ∧ x.drop (p + r) = y.drop (p + m)) := by
  rintro ⟨e1, e2⟩
  unfold chg at h
  split at h
  · cases h
  · cases h
    have l1 := lcp_le x y
    have l2 := lcs_le (x.drop (lcp x y)) (y.drop (lcp x y))
    simp only [List.length_drop] at l2
    have hr : (r : Int) < (x.length : Int) - (lcp x y : Int) - (lcs (x.drop (lcp x y)) (y.drop (lcp x y)) : Int) := hr
    have hpy : p ≤ y.length := by
      have := congrArg List.length e1
      simp at this
      omega
    have p1 : p ≤ lcp x y := lcp_max x y p hp hpy e1
    have hl := congrArg List.length e2
    simp only [List.length_drop] at hl
    -- a common end of x and y of s signs, s at most what is behind the common beginning
    have ends : ∀ s, s ≤ x.length - (p + r) → s ≤ x.length - lcp x y → s ≤ y.length - lcp x y → s ≤ lcs (x.drop (lcp x y)) (y.drop (lcp x y)) := by
      intro s h1 h2 h3
      refine lcp_max _ _ s (by simp; omega) (by simp; omega) ?_
      rw [List.take_reverse, List.take_reverse, List.length_drop, List.length_drop, List.drop_drop, List.drop_drop]
      congr 1
      have a1 : lcp x y + (x.length - lcp x y - s) = x.length - s := by omega
      have a2 : lcp x y + (y.length - lcp x y - s) = y.length - s := by omega
      rw [a1, a2]
      have b1 : x.drop (x.length - s) = (x.drop (p + r)).drop (x.length - s - (p + r)) := by rw [List.drop_drop]; exact congrArg (fun z => x.drop z) (by omega)
      have b2 : y.drop (y.length - s) = (y.drop (p + m)).drop (x.length - s - (p + r)) := by rw [List.drop_drop]; exact congrArg (fun z => y.drop z) (by omega)
      rw [b1, b2, e2]
    by_cases c1 : x.length - (p + r) ≤ min x.length y.length - lcp x y
    · have := ends (x.length - (p + r)) (Nat.le_refl _) (by omega) (by omega)
      omega
    · have := ends (min x.length y.length - lcp x y) (by omega) (by omega) (by omega)
      omega
theorem gRange1_nat {n : Nat} (h : n < 1000000) : mMapO (β := Bx) gRange1 (mCons (pu (n : Int)) (pu ())) = pu (rangeI 0 (n : Int)) := by
  rw [mCons_pu, mMapO_pu, range1_ok ⟨by omega, by omega⟩]
  rfl
theorem law_true (ns : List Int) (_ : ns.length ≤ 63) : m_law ⟨ns⟩ () = some (true, ()) := by
  obtain ⟨r, hr⟩ := row_ok ns 50 (by decide)
  have hsm : 1000 ≤ line := by decide
  unfold m_law mb_law
  have ra : gRange1 (20, ()) = some (rangeI 0 20) := range1_ok (by decide)
  have rc : m_changed [97, 98, 99] none = pu [97, 98, 99] := changed_eq (by decide) (fun u h => by cases h)
  simp only [mCons_pu, bd_pu, hr, zoomU_pu, mMapO_pu, ra, ov_get, zoom_id, rc, mOp_pu, gEqS_tx, decide_true, mRetD_pu]
  have hw : ∀ c ∈ ([97, 98, 32, 10] : Tx), c < 0x110000 := by decide
  refine newB_end r (Tot.loop (J := fun _ => True) trivial fun c _ x _ => ?_) fun _ _ => rfl
  refine .bd (Tot.text (w := [97, 98, 32, 10]) (k := 4) (n := 9) (by decide) hw (by decide) (by decide) (by decide)) fun one h1 => ?_
  have h1 : Gd 9 one := h1
  have o1 : one.length ≤ line := by have := h1.1; omega
  -- the other text
  refine Tot.then (J := fun two : Tx => Gd 20 two) ?_ fun two h2 => ?_
  · refine .bd (Tot.rangeD (draw_ok (by decide)) (by decide)) fun xs ⟨v, e, hv⟩ => ?_
    subst e
    have hlen : (rangeI 0 v).length ≤ 2 := by rw [rangeI_len]; omega
    refine (Tot.loopI (J := fun p two => Gd (9 + 3 * p.length) two) (rangeI 0 v) [] (by simpa using h1) fun p x rr two hp h3 => ?_).imp fun o ⟨c', e, h⟩ => ⟨c', e, ?_⟩
    rotate_left
    · exact ⟨by have := h.1; simp at this; omega, h.2⟩
    have hpl : p.length < 2 := by
      have := congrArg List.length hp
      simp at this
      omega
    have h3 : Gd (9 + 3 * p.length) two := h3
    have t1 : two.length ≤ line := by have := h3.1; omega
    refine .bd (Q := fun at_ : Int => 0 ≤ at_) (Tot.op (A := fun _ : Int => True) (B := fun b : Int => 0 < b) (.mapO (.one (draw_ok (by decide))) fun z hz => ⟨z.1, rfl, trivial⟩) (.op (A := fun a : Int => 0 ≤ a) (B := fun b : Int => b = 1) (.mapO (.one .eq) fun z hz => ⟨(two.length : Int), by obtain ⟨z, _⟩ := z; cases hz; exact lenT_ok t1, by omega⟩) .eq fun a b ha hb => ⟨a + b, rfl, by omega⟩) fun a b ha hb => ⟨a % b, gMod_ok hb, Int.emod_nonneg _ (by omega)⟩) fun at_ hat => ?_
    have hat : 0 ≤ at_ := hat
    refine .bd (Q := fun z : Tx => Gd (9 + 3 * (p ++ [x]).length) z) ?_ fun z hz => .pu ⟨z, rfl, hz⟩
    refine .op (A := fun z : Tx => ∃ k, z.length ≤ k + 2 ∧ z.length ≤ line ∧ k ≤ min at_.toNat two.length ∧ ∀ c ∈ z, c < 0x110000) (B := fun z : Tx => z.length ≤ two.length - at_.toNat ∧ ∀ c ∈ z, c < 0x110000) ?_ ?_ fun a b ha hb => ?_
    · refine .op (A := fun z : Tx => z = two.take at_.toNat) (B := fun z : Tx => Gd 2 z) (.sl (A := fun z => z = two) (B := fun o => o = none) (C := fun o => o = some at_) .eq .eq (.map_ .eq fun x hx => by rw [hx]) fun x lo hi hx hl hh => ⟨two.take at_.toNat, by rw [hx, hl, hh, gCut_ok t1, cut_to hat], rfl⟩) (.op (Tot.gIx (by decide) hw (by decide) (by decide) (draw_ok (by decide))) (draw_ok (by decide)) fun s n ⟨c, e, hc⟩ hn => ?_) fun a b ha hb => ?_
      · subst e
        exact ⟨_, gRep_ok (by omega), by have := rep_Gd hc n.toNat; exact ⟨by have := this.1; omega, this.2⟩⟩
      · subst ha
        have hl : (two.take at_.toNat).length ≤ 20 := by have := h3.1; simp; omega
        refine ⟨_, gCat_ok (by have := hb.1; omega), min at_.toNat two.length, by have := hb.1; simp; omega, by have := hb.1; simp at hl ⊢; omega, Nat.le_refl _, ((h3.take _).app hb).2⟩
    · refine .sl .eq (B := fun o => ∃ v, o = some v ∧ at_ ≤ v) (.map_ (.op .eq (draw_ok (by decide)) fun a b ha hb => ⟨a + b, rfl, (by rw [ha]; omega : at_ ≤ a + b)⟩) fun v hv => ⟨v, rfl, hv⟩) .eq fun x lo hi hx ⟨v, e, hv⟩ hh => ?_
      subst hx e hh
      rw [gCut_ok t1, cut_from (by omega)]
      exact ⟨_, rfl, by simp; omega, (h3.drop _).2⟩
    · obtain ⟨k, a1, a2, a3, a4⟩ := ha
      have a5 := h3.1
      refine ⟨_, gCat_ok (by omega), by simp; omega, fun c hc => ?_⟩
      rcases List.mem_append.mp hc with hc | hc
      · exact a4 c hc
      · exact hb.2 c hc
  · have t1 : two.length ≤ line := by have := h2.1; omega
    have t2 := h2.1
    have o2 := h1.1
    have back := chg_back (x := one) (y := two)
    have ok : EqD.ok (chg one two) = true := by
      unfold chg
      split
      · rfl
      · show (true && (true && okT _)) = true
        rw [Bool.true_and, Bool.true_and]
        exact ((h2.take _).drop _).ok
    have cd : m_changed one (chg one two) = pu two := by
      rw [changed_eq o1]
      · cases e : chg one two with
        | none =>
          rw [e] at back
          rw [show one = two from back]
          rfl
        | some t =>
          rw [e] at back
          exact congrArg pu back.2.2.1
      · intro u hu
        rw [hu] at back
        obtain ⟨b1, b2, b3, b4, b5⟩ := back
        exact ⟨b1, b2, by omega, by rw [b3]; exact t1⟩
    simp only [change_eq o1 t1, due_eq o1 t1, cd, zoomU_pu, bd_pu, mOp_pu, gNeD_ok ok ok, decide_true, Bool.not_true, ov_get, mOr_pu, Bool.false_eq_true, if_false, gNeS_tx, mIf_pu, mThen_nx]
    cases e : chg one two with
    | none => simp only [Option.isSome_none, Bool.false_eq_true, if_false, mThen_nx]; exact .pu ⟨(), rfl, trivial⟩
    | some t =>
      rw [e] at back
      obtain ⟨b1, b2, b3, b4, b5⟩ := back
      simp only [Option.isSome_some, if_true, mMapO_pu, ov_get, mOp_pu, gK, mCons_pu, lenT_ok o1, lenT_ok t1, gI]
      refine .then (J := fun _ => True) (.then (J := fun _ => True) ?_ fun _ _ => .pu ⟨(), rfl, trivial⟩) fun _ _ => .pu ⟨(), rfl, trivial⟩
      rw [range1_ok ⟨by omega, by omega⟩, ov_get, bd_pu]
      refine Tot.loop (J := fun _ => True) trivial fun c _ p hp => ?_
      have hp := mem_rangeI hp
      refine .then (J := fun _ => True) ?_ fun _ _ => .pu ⟨(), rfl, trivial⟩
      have r2 : gMin2 (t.b, (one.length : Int) - p, ()) = some (min t.b ((one.length : Int) - p)) := by
        unfold gMin2
        show some (if (one.length : Int) - p < t.b then (one.length : Int) - p else t.b) = _
        congr 1
        split <;> omega
      simp only [if_true, ov_get, mCons_pu, mMapO_pu, r2]
      rw [range1_ok ⟨by omega, by omega⟩, ov_get, bd_pu]
      refine Tot.loop (J := fun _ => True) trivial fun c _ q hq => ?_
      have hq := mem_rangeI hq
      have no : ∀ m : Nat, (m : Int) = (two.length : Int) - one.length + q → ¬ (one.take p.toNat = two.take p.toNat ∧ one.drop (p.toNat + q.toNat) = two.drop (p.toNat + m)) := fun m hm => chg_min e (by omega) (by omega) (by omega) (by omega)
      have dn : ∀ o : Fl Unit Bool, o = .nx () → Tot BxOk (pu (β := Bx) o) fun o => ∃ c' : Unit, o = .nx c' ∧ True := fun o ho => .pu ⟨(), ho, trivial⟩
      by_cases hm : 0 ≤ (two.length : Int) - one.length + q
      · have no := no ((two.length : Int) - one.length + q).toNat (by omega)
        have e1 : p.toNat + q.toNat = (p + q).toNat := by omega
        have e2 : p.toNat + ((two.length : Int) - one.length + q).toNat = (p + ((two.length : Int) - one.length + q)).toNat := by omega
        rw [e1, e2] at no
        simp only [bd_pu, gB, hm, decide_true, ov_get, mAnd_pu, if_true, mMap_pu, mSl_pu, gCut_ok o1, gCut_ok t1, cut_to (show 0 ≤ p by omega), cut_from (show 0 ≤ p + q by omega), cut_from (show 0 ≤ p + ((two.length : Int) - one.length + q) by omega), gEqS_tx, mOp_pu, mIf_pu]
        by_cases n1 : one.take p.toNat = two.take p.toNat
        · have n2 : ¬ one.drop (p + q).toNat = two.drop (p + ((two.length : Int) - one.length + q)).toNat := fun z => no ⟨n1, z⟩
          simp only [n1, decide_true, if_true, n2, decide_false, mIf_pu, Bool.false_eq_true, if_false, mThen_nx]
          exact dn _ rfl
        · simp only [n1, decide_false, Bool.false_eq_true, if_false, mIf_pu, mThen_nx]
          exact dn _ rfl
      · simp only [bd_pu, gB, hm, decide_false, ov_get, mAnd_pu, Bool.false_eq_true, if_false, mIf_pu, mThen_nx]
        exact dn _ rfl
end My

namespace My
open PySem L2 Tw
def top (i : Nat) : Stmt := PySem.Challenge.pw_gapsalike_k21_changes.main.body.getD i (.Pass ⟨0, 0, 0, 0⟩)
structure Txt (K : PySem.W.Frag) (mg : Str → Option Value) : Prop where
  b_abs : mg "abs" = none
  b_int : mg "int" = none
  b_len : mg "len" = none
  b_min : mg "min" = none
  b_range : mg "range" = none
abbrev s_common : Stmt := top 1
theorem sc_common : FnScope ["one", "two", "count"] ["one", "two"] (defScope s_common) := ⟨rfl, rfl, rfl, by decide +kernel, rfl, by decide +kernel, by decide +kernel⟩

abbrev s_change : Stmt := top 2
theorem sc_change : FnScope ["one", "two", "offset", "end"] ["one", "two"] (defScope s_change) := ⟨rfl, rfl, rfl, by decide +kernel, rfl, by decide +kernel, by decide +kernel⟩

abbrev s_changed : Stmt := top 3
theorem sc_changed : FnScope ["one", "told", "offset", "removed", "inserted"] ["one", "told"] (defScope s_changed) := ⟨rfl, rfl, rfl, by decide +kernel, rfl, by decide +kernel, by decide +kernel⟩

abbrev s_law_cell : Stmt := top 5
theorem sc_law_cell : FnScope ["_law_script", "_law_k"] ["_law_script", "_law_k"] (defScope s_law_cell) := ⟨rfl, rfl, rfl, by decide +kernel, rfl, by decide +kernel, by decide +kernel⟩

abbrev s_law_row : Stmt := top 6
theorem sc_law_row : FnScope ["_law_script", "_law_first", "_law_last", "_law_row_here", "_law_k", "_law_cell_here", "_law_turn"] ["_law_script", "_law_first", "_law_last"] (defScope s_law_row) := ⟨rfl, rfl, rfl, by decide +kernel, rfl, by decide +kernel, by decide +kernel⟩

abbrev s_law_draw : Stmt := top 7
theorem sc_law_draw : FnScope ["_law_box", "_law_many", "_law_at"] ["_law_box", "_law_many"] (defScope s_law_draw) := ⟨rfl, rfl, rfl, by decide +kernel, rfl, by decide +kernel, by decide +kernel⟩

abbrev s_law_due : Stmt := top 8
theorem sc_law_due : FnScope ["_law_one", "_law_two", "_law_p", "_law_turn", "_law_q"] ["_law_one", "_law_two"] (defScope s_law_due) := ⟨rfl, rfl, rfl, by decide +kernel, rfl, by decide +kernel, by decide +kernel⟩

abbrev s_law : Stmt := top 9
theorem sc_law : FnScope ["_law_script", "_law_box", "_law_turn", "_law_one", "_law_two", "_law_k", "_law_told", "_law_at", "_law_p", "_law_removed", "_law_many"] ["_law_script"] (defScope s_law) := ⟨rfl, rfl, rfl, by decide +kernel, rfl, by decide +kernel, by decide +kernel⟩

section
variable {P : Program} {w : World} {K : PySem.W.Frag} {mg : Str → Option Value} {base : Heap}
theorem ok_common (R : Raw K mg "_common" ["one", "two"] s_common) (T : Txt K mg) : Df P w K mg base "_common" 1 ["one", "two"] (sp K (α := (Tx × (Tx × Unit))) f0 (fun x => m_common x.1 x.2.1)) := by
  obtain ⟨f, fd, Fn, hm, hk, hb⟩ := R.ex
  refine ⟨f, fd, Fn.ok sc_common (sp_len (n := 2) fun _ => rfl) (fun cdv A outer s H vs Q E hr h => ?_), hm, hk, hb⟩
  refine ⟨_, pss_cons (ps_set (i := 2) sc_common.nd rfl (Or.inl rfl) (pe_int)) (pss_cons (ps_while PassesOwn.never (PW.pt (pw_and (pt_cmpN op_lt (pv 2) (pe_callB (callMin2 rfl) (by rfl) T.b_min bt_min (pa_cons (pe_callB callLenT (by rfl) T.b_len bt_len (pa_cons (pv 0) (pa_nil))) (pa_cons (pe_callB callLenT (by rfl) T.b_len bt_len (pa_cons (pv 1) (pa_nil))) (pa_nil))))) (pw_and1 (pt_cmpN op_eq (pe_ix ix_str (pv 0) (pv 2) (fun _ _ => rfl)) (pe_ix ix_str (pv 1) (pv 2) (fun _ _ => rfl)))))) (pss_cons (ps_aug (i := 2) sc_common.nd rfl (Or.inl rfl) (pe_int) iop_addI) (pss_nil))) (pss_cons (ps_ret (pv 2)) pss_nil)), ?_⟩
  refine @run_body K (Tx × (Tx × Unit)) Int Unit Unit _ _ f0 (fun x => m_common x.1 x.2.1) (fun x => mb_common x.1 x.2.1) (fun _ _ => [.un, .un, .un]) _ ["one", "two", "count"] 0 vs H Q E h (fun _ => rfl) 3 2 (fun _ => rfl) rfl rfl (by decide) (fun x => ?_)
  obtain ⟨v_one, v_two, _⟩ := x
  show Ss K _ [Sl.of K v_one, Sl.of K v_two, .un] f0 f0 (mb_common v_one v_two) _
  exact ss_asg (es_int) tg_name fun v_count_1 => ss_then (e1 := (fun g4 : Int => [Sl.of K v_one, Sl.of K v_two, Sl.of K g4])) (ss_while (c0 := v_count_1) ⟨.inr rfl, ⟨.inr rfl, ⟨.inr rfl, trivial⟩⟩⟩ (fun c2 => et_and (et_test (es_op o2_lt (es_var (i := 2) rfl) (es_cb cl_min2 (ea_cons (es_cb cl_lenT (ea_cons (es_var (i := 0) rfl) (ea_nil))) (ea_cons (es_cb cl_lenT (ea_cons (es_var (i := 1) rfl) (ea_nil))) (ea_nil)))))) (et_test (es_op o2_eqS (es_op o2_ixS (es_var (i := 0) rfl) (es_var (i := 2) rfl)) (es_op o2_ixS (es_var (i := 1) rfl) (es_var (i := 2) rfl))))) (fun c2 => ss_aug (x := c2) rfl o2_add (es_int) fun v_count_3 => ss_nx ⟨.inr rfl, ⟨.inr rfl, ⟨.inr rfl, trivial⟩⟩⟩)) (fun g4 => ss_last (ss_ret (es_var (i := 2) rfl))) (fun _ => ⟨0, rfl⟩)

theorem ok_change (R : Raw K mg "change" ["one", "two"] s_change) (T : Txt K mg) (D_common : Df P w K mg base "_common" 1 ["one", "two"] (sp K (α := (Tx × (Tx × Unit))) f0 (fun x => m_common x.1 x.2.1))) : Df P w K mg base "change" 2 ["one", "two"] (sp K (α := (Tx × (Tx × Unit))) f0 (fun x => m_change x.1 x.2.1)) := by
  obtain ⟨f_common, fd_common, g_common, m_g_common, k_g_common, b_g_common⟩ := D_common.ex
  obtain ⟨f, fd, Fn, hm, hk, hb⟩ := R.ex
  refine ⟨f, fd, Fn.ok sc_change (sp_len (n := 2) fun _ => rfl) (fun cdv A outer s H vs Q E hr h => ?_), hm, hk, hb⟩
  refine ⟨_, pss_cons (ps_if (pt_cmpN op_eq (pv 0) (pv 1)) (pss_cons (ps_ret (pe_non)) pss_nil) (pss_nil)) (pss_cons (ps_set (i := 2) sc_change.nd rfl (Or.inl rfl) (pe_call g_common (hr.mono (by decide)) rfl m_g_common k_g_common b_g_common .nil pass0 (pa_cons (pv 0) (pa_cons (pv 1) (pa_nil))))) (pss_cons (ps_set (i := 3) sc_change.nd rfl (Or.inl rfl) (pe_call g_common (hr.mono (by decide)) rfl m_g_common k_g_common b_g_common .nil pass0 (pa_cons (pe_revS (pe_slice sl_str (pv 0) (po_some (pv 2)) (po_none))) (pa_cons (pe_revS (pe_slice sl_str (pv 1) (po_some (pv 2)) (po_none))) (pa_nil))))) (pss_cons (ps_ret (pe_tup (pa_cons (pv 2) (pa_cons (pe_op op_sub (pe_op op_sub (pe_callB callLenT (by rfl) T.b_len bt_len (pa_cons (pv 0) (pa_nil))) (pv 2)) (pv 3)) (pa_cons (pe_slice sl_str (pv 1) (po_some (pv 2)) (po_some (pe_op op_sub (pe_callB callLenT (by rfl) T.b_len bt_len (pa_cons (pv 1) (pa_nil))) (pv 3)))) (pa_nil)))))) pss_nil))), ?_⟩
  refine @run_body K (Tx × (Tx × Unit)) (Option (T3 Int Int Tx)) Unit Unit _ _ f0 (fun x => m_change x.1 x.2.1) (fun x => mb_change x.1 x.2.1) (fun _ _ => [.un, .un, .un, .un]) _ ["one", "two", "offset", "end"] 0 vs H Q E h (fun _ => rfl) 4 2 (fun _ => rfl) rfl rfl (by decide) (fun x => ?_)
  obtain ⟨v_one, v_two, _⟩ := x
  show Ss K _ [Sl.of K v_one, Sl.of K v_two, .un, .un] f0 f0 (mb_change v_one v_two) _
  exact ss_then (e1 := (fun g1 : Unit => [Sl.of K v_one, Sl.of K v_two, .un, .un])) (ss_if (et_test (es_op o2_eqS (es_var (i := 0) rfl) (es_var (i := 1) rfl))) (ss_last (ss_ret (es_noneO))) (ss_nx ⟨.inr rfl, ⟨.inr rfl, ⟨.inl rfl, ⟨.inl rfl, trivial⟩⟩⟩⟩)) (fun g1 => ss_asg (es_callP (ea_cons (es_var (i := 0) rfl) (ea_cons (es_var (i := 1) rfl) (ea_nil)))) tg_name fun v_offset_2 => ss_asg (es_callP (ea_cons (es_revS (es_slice sl3_S (es_var (i := 0) rfl) (eo_some (es_var (i := 2) rfl)) (eo_none))) (ea_cons (es_revS (es_slice sl3_S (es_var (i := 1) rfl) (eo_some (es_var (i := 2) rfl)) (eo_none))) (ea_nil)))) tg_name fun v_end_3 => ss_last (ss_ret (es_cast cast_some (es_tup3 (ea_cons (es_var (i := 2) rfl) (ea_cons (es_op o2_sub (es_op o2_sub (es_cb cl_lenT (ea_cons (es_var (i := 0) rfl) (ea_nil))) (es_var (i := 2) rfl)) (es_var (i := 3) rfl)) (ea_cons (es_slice sl3_S (es_var (i := 1) rfl) (eo_some (es_var (i := 2) rfl)) (eo_some (es_op o2_sub (es_cb cl_lenT (ea_cons (es_var (i := 1) rfl) (ea_nil))) (es_var (i := 3) rfl)))) (ea_nil)))))))) (fun _ => ⟨0, rfl⟩)

theorem ok_changed (R : Raw K mg "changed" ["one", "told"] s_changed) (T : Txt K mg) : Df P w K mg base "changed" 1 ["one", "told"] (sp K (α := (Tx × ((Option (T3 Int Int Tx)) × Unit))) f0 (fun x => m_changed x.1 x.2.1)) := by
  obtain ⟨f, fd, Fn, hm, hk, hb⟩ := R.ex
  refine ⟨f, fd, Fn.ok sc_changed (sp_len (n := 2) fun _ => rfl) (fun cdv A outer s H vs Q E hr h => ?_), hm, hk, hb⟩
  refine ⟨_, pss_cons (ps_if (pt_cmpN opIsNon (pv 1) (pe_non)) (pss_cons (ps_ret (pv 0)) pss_nil) (pss_nil)) (pss_cons (ps_asg (pv 1) (pg_tup rfl (pgs_cons (pg_name (i := 2) sc_changed.nd rfl (Or.inl rfl)) (pgs_cons (pg_name (i := 3) sc_changed.nd rfl (Or.inl rfl)) (pgs_cons (pg_name (i := 4) sc_changed.nd rfl (Or.inl rfl)) (pgs_nil)))))) (pss_cons (ps_ret (pe_op opAddS (pe_op opAddS (pe_slice sl_str (pv 0) (po_none) (po_some (pv 2))) (pv 4)) (pe_slice sl_str (pv 0) (po_some (pe_op op_add (pv 2) (pv 3))) (po_none)))) pss_nil)), ?_⟩
  refine @run_body K (Tx × ((Option (T3 Int Int Tx)) × Unit)) Tx Unit Unit _ _ f0 (fun x => m_changed x.1 x.2.1) (fun x => mb_changed x.1 x.2.1) (fun _ _ => [.un, .un, .un, .un, .un]) _ ["one", "told", "offset", "removed", "inserted"] 0 vs H Q E h (fun _ => rfl) 5 2 (fun _ => rfl) rfl rfl (by decide) (fun x => ?_)
  obtain ⟨v_one, v_told, _⟩ := x
  show Ss K _ [Sl.of K v_one, Sl.of K v_told, .un, .un, .un] f0 f0 (mb_changed v_one v_told) _
  exact ss_then (e1 := (fun g1 : Unit => [Sl.of K v_one, Sl.of K v_told, .un, .un, .un])) (ss_if (et_test (es_op o2_isN (es_var (i := 1) rfl) (es_non))) (ss_last (ss_ret (es_var (i := 0) rfl))) (ss_nx ⟨.inr rfl, ⟨.inr rfl, ⟨.inl rfl, ⟨.inl rfl, ⟨.inl rfl, trivial⟩⟩⟩⟩⟩)) (fun g1 => ss_asg (es_castO castO_id (es_var (i := 1) rfl)) tg_tri fun t2 => ss_last (ss_ret (es_op o2_addS (es_op o2_addS (es_slice sl3_S (es_var (i := 0) rfl) (eo_none) (eo_some (es_var (i := 2) rfl))) (es_var (i := 4) rfl)) (es_slice sl3_S (es_var (i := 0) rfl) (eo_some (es_op o2_add (es_var (i := 2) rfl) (es_var (i := 3) rfl))) (eo_none))))) (fun _ => ⟨0, rfl⟩)

theorem ok_law_cell (R : Raw K mg "_law_cell" ["_law_script", "_law_k"] s_law_cell) (T : Txt K mg) : Df P w K mg base "_law_cell" 1 ["_law_script", "_law_k"] (sp K (α := (Scr × (Int × Unit))) f0 (fun x => m_law_cell x.1 x.2.1)) := by
  obtain ⟨f, fd, Fn, hm, hk, hb⟩ := R.ex
  refine ⟨f, fd, Fn.ok sc_law_cell (sp_len (n := 2) fun _ => rfl) (fun cdv A outer s H vs Q E hr h => ?_), hm, hk, hb⟩
  refine ⟨_, pss_cons (ps_if (pt_cmpN op_lt (pv 1) (pe_callB callLenQ (by rfl) T.b_len bt_len (pa_cons (pv 0) (pa_nil)))) (pss_cons (ps_ret (pe_ix ix_list (pv 0) (pv 1) (fun _ _ => rfl))) pss_nil) (pss_nil)) (pss_cons (ps_ret (pe_int)) pss_nil), ?_⟩
  refine @run_body K (Scr × (Int × Unit)) Int Unit Unit _ _ f0 (fun x => m_law_cell x.1 x.2.1) (fun x => mb_law_cell x.1 x.2.1) (fun _ _ => [.un, .un]) _ ["_law_script", "_law_k"] 0 vs H Q E h (fun _ => rfl) 2 2 (fun _ => rfl) rfl rfl (by decide) (fun x => ?_)
  obtain ⟨v_script, v_k, _⟩ := x
  show Ss K _ [Sl.of K v_script, Sl.of K v_k] f0 f0 (mb_law_cell v_script v_k) _
  exact ss_then (e1 := (fun g1 : Unit => [Sl.of K v_script, Sl.of K v_k])) (ss_if (et_test (es_op o2_lt (es_var (i := 1) rfl) (es_cb cl_lenScr (ea_cons (es_var (i := 0) rfl) (ea_nil))))) (ss_last (ss_ret (es_op o2_ixScr (es_var (i := 0) rfl) (es_var (i := 1) rfl)))) (ss_nx ⟨.inr rfl, ⟨.inr rfl, trivial⟩⟩)) (fun g1 => ss_last (ss_ret (es_int))) (fun _ => ⟨0, rfl⟩)

theorem ok_law_row (R : Raw K mg "_law_row" ["_law_script", "_law_first", "_law_last"] s_law_row) (T : Txt K mg) (D_law_cell : Df P w K mg base "_law_cell" 1 ["_law_script", "_law_k"] (sp K (α := (Scr × (Int × Unit))) f0 (fun x => m_law_cell x.1 x.2.1))) : Df P w K mg base "_law_row" 2 ["_law_script", "_law_first", "_law_last"] (sp K (α := (Scr × (Int × (Int × Unit)))) f0 (fun x => m_law_row x.1 x.2.1 x.2.2.1)) := by
  obtain ⟨f_law_cell, fd_law_cell, g_law_cell, m_g_law_cell, k_g_law_cell, b_g_law_cell⟩ := D_law_cell.ex
  obtain ⟨f, fd, Fn, hm, hk, hb⟩ := R.ex
  refine ⟨f, fd, Fn.ok sc_law_row (sp_len (n := 3) fun _ => rfl) (fun cdv A outer s H vs Q E hr h => ?_), hm, hk, hb⟩
  refine ⟨_, pss_cons (ps_set (i := 3) sc_law_row.nd rfl (Or.inl rfl) (pe_lst pa_nil)) (pss_cons (ps_for PassesOwn.never rfl (pi_range2 rfl T.b_range (pa_cons (pv 1) (pa_cons (pv 2) (pa_nil)))) (pg_name (i := 4) sc_law_row.nd rfl (Or.inl rfl)) (pss_cons (ps_set (i := 5) sc_law_row.nd rfl (Or.inl rfl) (pe_call g_law_cell (hr.mono (by decide)) rfl m_g_law_cell k_g_law_cell b_g_law_cell .nil pass0 (pa_cons (pv 0) (pa_cons (pv 4) (pa_nil))))) (pss_cons (ps_set (i := 5) sc_law_row.nd rfl (Or.inl rfl) (pe_op op_add (pe_callB callAbs (by rfl) T.b_abs bt_abs (pa_cons (pe_op op_mul (pe_int) (pv 5)) (pa_nil))) (pe_callTy callInt1 (by rfl) T.b_int bt_int (pa_cons (pe_cmpN op_lt (pv 5) (pe_int)) (pa_nil))))) (pss_cons (ps_if (pt_cmpN op_gt (pv 5) (pe_op op_pow (pe_int) (pe_int))) (pss_cons (ps_for PassesOwn.never rfl (pi_range1 rfl T.b_range (pa_cons (pe_int) (pa_nil))) (pg_name (i := 6) sc_law_row.nd rfl (Or.inl rfl)) (pss_cons (ps_if (pt_cmpN op_gt (pv 5) (pe_int)) (pss_cons (ps_expr (pe_bm PySem.F.plainAttrs_list PySem.F.slot_list_append PySem.F.type_list_append mt_append (pv 3) (pa_cons (pe_op op_mod (pe_callTy callInt1 (by rfl) T.b_int bt_int (pa_cons (pv 5) (pa_nil))) (pe_int)) pa_nil))) (pss_cons (ps_set (i := 5) sc_law_row.nd rfl (Or.inl rfl) (pe_op op_fdiv (pv 5) (pe_int))) (pss_nil))) (pss_nil)) (pss_nil))) (pss_nil)) (pss_cons (ps_for PassesOwn.never rfl (pi_range1 rfl T.b_range (pa_cons (pe_int) (pa_nil))) (pg_name (i := 6) sc_law_row.nd rfl (Or.inl rfl)) (pss_cons (ps_set (i := 5) sc_law_row.nd rfl (Or.inl rfl) (pe_op op_mod (pe_callTy callInt1 (by rfl) T.b_int bt_int (pa_cons (pe_op op_add (pe_op op_add (pe_op op_mul (pv 5) (pe_int)) (pe_op op_mul (pe_int) (pe_op op_add (pv 4) (pv 6)))) (pe_int)) (pa_nil))) (pe_int))) (pss_cons (ps_expr (pe_bm PySem.F.plainAttrs_list PySem.F.slot_list_append PySem.F.type_list_append mt_append (pv 3) (pa_cons (pe_op op_mod (pe_callTy callInt1 (by rfl) T.b_int bt_int (pa_cons (pe_op op_fdiv (pv 5) (pe_int)) (pa_nil))) (pe_int)) pa_nil))) (pss_nil)))) (pss_nil))) (pss_nil))))) (pss_cons (ps_ret (pv 3)) pss_nil)), ?_⟩
  refine @run_body K (Scr × (Int × (Int × Unit))) (List Int) Unit Unit _ _ f0 (fun x => m_law_row x.1 x.2.1 x.2.2.1) (fun x => mb_law_row x.1 x.2.1 x.2.2.1) (fun _ _ => [.un, .un, .un, .un, .un, .un, .un]) _ ["_law_script", "_law_first", "_law_last", "_law_row_here", "_law_k", "_law_cell_here", "_law_turn"] 0 vs H Q E h (fun _ => rfl) 7 3 (fun _ => rfl) rfl rfl (by decide) (fun x => ?_)
  obtain ⟨v_script, v_first, v_last, _⟩ := x
  show Ss K _ [Sl.of K v_script, Sl.of K v_first, Sl.of K v_last, .un, .un, .un, .un] f0 f0 (mb_law_row v_script v_first v_last) _
  exact ss_new (α := Int) (i := 3) (k := 0) (fun _ => rfl) (fun _ => Nat.le_of_ble_eq_true rfl) (ss_then (e1 := (fun g15 : Unit => [Sl.of K v_script, Sl.of K v_first, Sl.of K v_last, .own 0, .un, .un, .un])) (ss_for (c0 := ()) (ei_range2 (ea_cons (es_var (i := 1) rfl) (ea_cons (es_var (i := 2) rfl) (ea_nil)))) ⟨.inr rfl, ⟨.inr rfl, ⟨.inr rfl, ⟨.inr rfl, ⟨.inl rfl, ⟨.inl rfl, ⟨.inl rfl, trivial⟩⟩⟩⟩⟩⟩⟩ (fun _ => tg_name) (fun c1 x2 => ss_asg (es_callP (ea_cons (es_var (i := 0) rfl) (ea_cons (es_var (i := 4) rfl) (ea_nil)))) tg_name fun v_cell_here_3 => ss_asg (es_op o2_add (es_cb cl_abs (ea_cons (es_op o2_mul (es_int) (es_var (i := 5) rfl)) (ea_nil))) (es_cb cl_intB (ea_cons (es_op o2_lt (es_var (i := 5) rfl) (es_int)) (ea_nil)))) tg_name fun v_cell_here_4 => ss_then (e1 := (fun g14 : Unit => [Sl.of K v_script, Sl.of K v_first, Sl.of K v_last, .own 0, Sl.of K x2, .un, .un])) (ss_if (et_test (es_op o2_gt (es_var (i := 5) rfl) (es_op o2_pow (es_int) (es_int)))) (ss_then (e1 := (fun g9 : Int => [Sl.of K v_script, Sl.of K v_first, Sl.of K v_last, .own 0, Sl.of K x2, Sl.of K g9, .un])) (ss_for (c0 := v_cell_here_4) (ei_range1 (ea_cons (es_int) (ea_nil))) ⟨.inr rfl, ⟨.inr rfl, ⟨.inr rfl, ⟨.inr rfl, ⟨.inr rfl, ⟨.inr rfl, ⟨.inl rfl, trivial⟩⟩⟩⟩⟩⟩⟩ (fun _ => tg_name) (fun c5 x6 => ss_then (e1 := (fun g8 : Int => [Sl.of K v_script, Sl.of K v_first, Sl.of K v_last, .own 0, Sl.of K x2, Sl.of K g8, Sl.of K x6])) (ss_if (et_test (es_op o2_gt (es_var (i := 5) rfl) (es_int))) (ss_app (i := 3) (k := 0) rfl (fun _ => rfl) (fun _ _ => rfl) (es_op o2_mod (es_cb cl_intI (ea_cons (es_var (i := 5) rfl) (ea_nil))) (es_int)) (ss_asg (es_op o2_fdiv (es_var (i := 5) rfl) (es_int)) tg_name fun v_cell_here_7 => ss_nx ⟨.inr rfl, ⟨.inr rfl, ⟨.inr rfl, ⟨.inr rfl, ⟨.inr rfl, ⟨.inr rfl, ⟨.inr rfl, trivial⟩⟩⟩⟩⟩⟩⟩)) (ss_nx ⟨.inr rfl, ⟨.inr rfl, ⟨.inr rfl, ⟨.inr rfl, ⟨.inr rfl, ⟨.inr rfl, ⟨.inr rfl, trivial⟩⟩⟩⟩⟩⟩⟩)) (fun g8 => ss_nx ⟨.inr rfl, ⟨.inr rfl, ⟨.inr rfl, ⟨.inr rfl, ⟨.inr rfl, ⟨.inr rfl, ⟨.inl rfl, trivial⟩⟩⟩⟩⟩⟩⟩) (fun _ => ⟨1, rfl⟩))) (fun g9 => ss_nx ⟨.inr rfl, ⟨.inr rfl, ⟨.inr rfl, ⟨.inr rfl, ⟨.inr rfl, ⟨.inl rfl, ⟨.inl rfl, trivial⟩⟩⟩⟩⟩⟩⟩) (fun _ => ⟨1, rfl⟩)) (ss_then (e1 := (fun g13 : Int => [Sl.of K v_script, Sl.of K v_first, Sl.of K v_last, .own 0, Sl.of K x2, Sl.of K g13, .un])) (ss_for (c0 := v_cell_here_4) (ei_range1 (ea_cons (es_int) (ea_nil))) ⟨.inr rfl, ⟨.inr rfl, ⟨.inr rfl, ⟨.inr rfl, ⟨.inr rfl, ⟨.inr rfl, ⟨.inl rfl, trivial⟩⟩⟩⟩⟩⟩⟩ (fun _ => tg_name) (fun c10 x11 => ss_asg (es_op o2_mod (es_cb cl_intI (ea_cons (es_op o2_add (es_op o2_add (es_op o2_mul (es_var (i := 5) rfl) (es_int)) (es_op o2_mul (es_int) (es_op o2_add (es_var (i := 4) rfl) (es_var (i := 6) rfl)))) (es_int)) (ea_nil))) (es_int)) tg_name fun v_cell_here_12 => ss_app (i := 3) (k := 0) rfl (fun _ => rfl) (fun _ _ => rfl) (es_op o2_mod (es_cb cl_intI (ea_cons (es_op o2_fdiv (es_var (i := 5) rfl) (es_int)) (ea_nil))) (es_int)) (ss_nx ⟨.inr rfl, ⟨.inr rfl, ⟨.inr rfl, ⟨.inr rfl, ⟨.inr rfl, ⟨.inr rfl, ⟨.inl rfl, trivial⟩⟩⟩⟩⟩⟩⟩))) (fun g13 => ss_nx ⟨.inr rfl, ⟨.inr rfl, ⟨.inr rfl, ⟨.inr rfl, ⟨.inr rfl, ⟨.inl rfl, ⟨.inl rfl, trivial⟩⟩⟩⟩⟩⟩⟩) (fun _ => ⟨1, rfl⟩))) (fun g14 => ss_nx ⟨.inr rfl, ⟨.inr rfl, ⟨.inr rfl, ⟨.inr rfl, ⟨.inl rfl, ⟨.inl rfl, ⟨.inl rfl, trivial⟩⟩⟩⟩⟩⟩⟩) (fun _ => ⟨1, rfl⟩))) (fun g15 => ss_frz (i := 3) (k := 0) rfl (fun _ => rfl) rfl (fun _ => Nat.le_of_ble_eq_true rfl) (fun l16 => ss_last (ss_ret (es_var (i := 3) rfl)))) (fun _ => ⟨0, rfl⟩))

theorem ok_law_draw (R : Raw K mg "_law_draw" ["_law_box", "_law_many"] s_law_draw) (T : Txt K mg) : Df P w K mg base "_law_draw" 1 ["_law_box", "_law_many"] (sp K (α := (Int × Unit)) (fB K) (fun x => m_law_draw x.1)) := by
  obtain ⟨f, fd, Fn, hm, hk, hb⟩ := R.ex
  refine ⟨f, fd, Fn.ok sc_law_draw (sp_len (n := 2) fun _ => rfl) (fun cdv A outer s H vs Q E hr h => ?_), hm, hk, hb⟩
  refine ⟨_, pss_cons (ps_set (i := 2) sc_law_draw.nd rfl (Or.inl rfl) (pe_ix ix_list (pv 0) (pe_int) (fun _ _ => rfl))) (pss_cons (ps_asg (pe_op op_add (pv 2) (pe_int)) (pg_sub (pv 0) pe_int set_list)) (pss_cons (ps_if (pt_cmpN op_lt (pv 2) (pe_callB callLenQ (by rfl) T.b_len bt_len (pa_cons (pe_ix ix_list (pv 0) (pe_int) (fun _ _ => rfl)) (pa_nil)))) (pss_cons (ps_ret (pe_op op_mod (pe_callTy callInt1 (by rfl) T.b_int bt_int (pa_cons (pe_ix ix_list (pe_ix ix_list (pv 0) (pe_int) (fun _ _ => rfl)) (pv 2) (fun _ _ => rfl)) (pa_nil))) (pv 1))) pss_nil) (pss_nil)) (pss_cons (ps_ret (pe_op op_mod (pe_callTy callInt1 (by rfl) T.b_int bt_int (pa_cons (pe_op op_add (pe_op op_mul (pv 2) (pe_int)) (pe_int)) (pa_nil))) (pv 1))) pss_nil))), ?_⟩
  refine @run_body K (Int × Unit) Int Bx Unit _ _ (fB K) (fun x => m_law_draw x.1) (fun x => mb_law_draw x.1) (fun _ _ => [.un, .un, .un]) _ ["_law_box", "_law_many", "_law_at"] 1 vs H Q E h (fun _ => rfl) 3 1 (fun _ => rfl) rfl rfl (by decide) (fun x => ?_)
  obtain ⟨v_many, _⟩ := x
  show Ss K _ [.own 0, Sl.of K v_many, .un] (fB K) (fB K) (mb_law_draw v_many) _
  exact ss_asg (es_box1 (i := 0) (k := 0) (get := (fun b : Bx => b)) rfl (fun _ => rfl)) tg_name fun v_at_1 => ss_box1 (i := 0) (k := 0) (get := (fun b : Bx => b)) (put := (fun (b : Bx) (c : Bx) => c)) rfl (fun _ => rfl) (fun _ _ => rfl) (es_op o2_add (es_var (i := 2) rfl) (es_int)) (ss_then (e1 := (fun g2 : Unit => [.own 0, Sl.of K v_many, Sl.of K v_at_1])) (ss_if (et_test (es_op o2_lt (es_var (i := 2) rfl) (es_cb cl_lenL (ea_cons (es_box0 (i := 0) (k := 0) (get := (fun b : Bx => b)) rfl (fun _ => rfl)) (ea_nil))))) (ss_last (ss_ret (es_op o2_mod (es_cb cl_intI (ea_cons (es_op o2_ixL (es_box0 (i := 0) (k := 0) (get := (fun b : Bx => b)) rfl (fun _ => rfl)) (es_var (i := 2) rfl)) (ea_nil))) (es_var (i := 1) rfl)))) (ss_nx ⟨.inr rfl, ⟨.inr rfl, ⟨.inr rfl, trivial⟩⟩⟩)) (fun g2 => ss_last (ss_ret (es_op o2_mod (es_cb cl_intI (ea_cons (es_op o2_add (es_op o2_mul (es_var (i := 2) rfl) (es_int)) (es_int)) (ea_nil))) (es_var (i := 1) rfl)))) (fun _ => ⟨1, rfl⟩))

theorem ok_law_due (R : Raw K mg "_law_due" ["_law_one", "_law_two"] s_law_due) (T : Txt K mg) : Df P w K mg base "_law_due" 1 ["_law_one", "_law_two"] (sp K (α := (Tx × (Tx × Unit))) f0 (fun x => m_law_due x.1 x.2.1)) := by
  obtain ⟨f, fd, Fn, hm, hk, hb⟩ := R.ex
  refine ⟨f, fd, Fn.ok sc_law_due (sp_len (n := 2) fun _ => rfl) (fun cdv A outer s H vs Q E hr h => ?_), hm, hk, hb⟩
  refine ⟨_, pss_cons (ps_if (pt_cmpN op_eq (pv 0) (pv 1)) (pss_cons (ps_ret (pe_non)) pss_nil) (pss_nil)) (pss_cons (ps_set (i := 2) sc_law_due.nd rfl (Or.inl rfl) (pe_int)) (pss_cons (ps_for PassesOwn.never rfl (pi_range1 rfl T.b_range (pa_cons (pe_callB (callMin2 rfl) (by rfl) T.b_min bt_min (pa_cons (pe_callB callLenT (by rfl) T.b_len bt_len (pa_cons (pv 0) (pa_nil))) (pa_cons (pe_callB callLenT (by rfl) T.b_len bt_len (pa_cons (pv 1) (pa_nil))) (pa_nil)))) (pa_nil))) (pg_name (i := 3) sc_law_due.nd rfl (Or.inl rfl)) (pss_cons (ps_if (PW.pt (pw_and (pt_cmpN op_eq (pv 2) (pv 3)) (pw_and1 (pt_cmpN op_eq (pe_ix ix_str (pv 0) (pv 3) (fun _ _ => rfl)) (pe_ix ix_str (pv 1) (pv 3) (fun _ _ => rfl)))))) (pss_cons (ps_set (i := 2) sc_law_due.nd rfl (Or.inl rfl) (pe_op op_add (pv 2) (pe_int))) (pss_nil)) (pss_nil)) (pss_nil))) (pss_cons (ps_set (i := 4) sc_law_due.nd rfl (Or.inl rfl) (pe_int)) (pss_cons (ps_for PassesOwn.never rfl (pi_range1 rfl T.b_range (pa_cons (pe_op op_sub (pe_callB (callMin2 rfl) (by rfl) T.b_min bt_min (pa_cons (pe_callB callLenT (by rfl) T.b_len bt_len (pa_cons (pv 0) (pa_nil))) (pa_cons (pe_callB callLenT (by rfl) T.b_len bt_len (pa_cons (pv 1) (pa_nil))) (pa_nil)))) (pv 2)) (pa_nil))) (pg_name (i := 3) sc_law_due.nd rfl (Or.inl rfl)) (pss_cons (ps_if (PW.pt (pw_and (pt_cmpN op_eq (pv 4) (pv 3)) (pw_and1 (pt_cmpN op_eq (pe_ix ix_str (pv 0) (pe_op op_sub (pe_op op_sub (pe_callB callLenT (by rfl) T.b_len bt_len (pa_cons (pv 0) (pa_nil))) (pe_int)) (pv 3)) (fun _ _ => rfl)) (pe_ix ix_str (pv 1) (pe_op op_sub (pe_op op_sub (pe_callB callLenT (by rfl) T.b_len bt_len (pa_cons (pv 1) (pa_nil))) (pe_int)) (pv 3)) (fun _ _ => rfl)))))) (pss_cons (ps_set (i := 4) sc_law_due.nd rfl (Or.inl rfl) (pe_op op_add (pv 4) (pe_int))) (pss_nil)) (pss_nil)) (pss_nil))) (pss_cons (ps_ret (pe_tup (pa_cons (pv 2) (pa_cons (pe_op op_sub (pe_op op_sub (pe_callB callLenT (by rfl) T.b_len bt_len (pa_cons (pv 0) (pa_nil))) (pv 2)) (pv 4)) (pa_cons (pe_slice sl_str (pv 1) (po_some (pv 2)) (po_some (pe_op op_sub (pe_callB callLenT (by rfl) T.b_len bt_len (pa_cons (pv 1) (pa_nil))) (pv 4)))) (pa_nil)))))) pss_nil))))), ?_⟩
  refine @run_body K (Tx × (Tx × Unit)) (Option (T3 Int Int Tx)) Unit Unit _ _ f0 (fun x => m_law_due x.1 x.2.1) (fun x => mb_law_due x.1 x.2.1) (fun _ _ => [.un, .un, .un, .un, .un]) _ ["_law_one", "_law_two", "_law_p", "_law_turn", "_law_q"] 0 vs H Q E h (fun _ => rfl) 5 2 (fun _ => rfl) rfl rfl (by decide) (fun x => ?_)
  obtain ⟨v_one, v_two, _⟩ := x
  show Ss K _ [Sl.of K v_one, Sl.of K v_two, .un, .un, .un] f0 f0 (mb_law_due v_one v_two) _
  exact ss_then (e1 := (fun g1 : Unit => [Sl.of K v_one, Sl.of K v_two, .un, .un, .un])) (ss_if (et_test (es_op o2_eqS (es_var (i := 0) rfl) (es_var (i := 1) rfl))) (ss_last (ss_ret (es_noneO))) (ss_nx ⟨.inr rfl, ⟨.inr rfl, ⟨.inl rfl, ⟨.inl rfl, ⟨.inl rfl, trivial⟩⟩⟩⟩⟩)) (fun g1 => ss_asg (es_int) tg_name fun v_p_2 => ss_then (e1 := (fun g7 : Int => [Sl.of K v_one, Sl.of K v_two, Sl.of K g7, .un, .un])) (ss_for (c0 := v_p_2) (ei_range1 (ea_cons (es_cb cl_min2 (ea_cons (es_cb cl_lenT (ea_cons (es_var (i := 0) rfl) (ea_nil))) (ea_cons (es_cb cl_lenT (ea_cons (es_var (i := 1) rfl) (ea_nil))) (ea_nil)))) (ea_nil))) ⟨.inr rfl, ⟨.inr rfl, ⟨.inr rfl, ⟨.inl rfl, ⟨.inl rfl, trivial⟩⟩⟩⟩⟩ (fun _ => tg_name) (fun c3 x4 => ss_then (e1 := (fun g6 : Int => [Sl.of K v_one, Sl.of K v_two, Sl.of K g6, Sl.of K x4, .un])) (ss_if (et_and (et_test (es_op o2_eqS (es_var (i := 2) rfl) (es_var (i := 3) rfl))) (et_test (es_op o2_eqS (es_op o2_ixS (es_var (i := 0) rfl) (es_var (i := 3) rfl)) (es_op o2_ixS (es_var (i := 1) rfl) (es_var (i := 3) rfl))))) (ss_asg (es_op o2_add (es_var (i := 2) rfl) (es_int)) tg_name fun v_p_5 => ss_nx ⟨.inr rfl, ⟨.inr rfl, ⟨.inr rfl, ⟨.inr rfl, ⟨.inl rfl, trivial⟩⟩⟩⟩⟩) (ss_nx ⟨.inr rfl, ⟨.inr rfl, ⟨.inr rfl, ⟨.inr rfl, ⟨.inl rfl, trivial⟩⟩⟩⟩⟩)) (fun g6 => ss_nx ⟨.inr rfl, ⟨.inr rfl, ⟨.inr rfl, ⟨.inl rfl, ⟨.inl rfl, trivial⟩⟩⟩⟩⟩) (fun _ => ⟨0, rfl⟩))) (fun g7 => ss_asg (es_int) tg_name fun v_q_8 => ss_then (e1 := (fun g13 : Int => [Sl.of K v_one, Sl.of K v_two, Sl.of K g7, .un, Sl.of K g13])) (ss_for (c0 := v_q_8) (ei_range1 (ea_cons (es_op o2_sub (es_cb cl_min2 (ea_cons (es_cb cl_lenT (ea_cons (es_var (i := 0) rfl) (ea_nil))) (ea_cons (es_cb cl_lenT (ea_cons (es_var (i := 1) rfl) (ea_nil))) (ea_nil)))) (es_var (i := 2) rfl)) (ea_nil))) ⟨.inr rfl, ⟨.inr rfl, ⟨.inr rfl, ⟨.inl rfl, ⟨.inr rfl, trivial⟩⟩⟩⟩⟩ (fun _ => tg_name) (fun c9 x10 => ss_then (e1 := (fun g12 : Int => [Sl.of K v_one, Sl.of K v_two, Sl.of K g7, Sl.of K x10, Sl.of K g12])) (ss_if (et_and (et_test (es_op o2_eqS (es_var (i := 4) rfl) (es_var (i := 3) rfl))) (et_test (es_op o2_eqS (es_op o2_ixS (es_var (i := 0) rfl) (es_op o2_sub (es_op o2_sub (es_cb cl_lenT (ea_cons (es_var (i := 0) rfl) (ea_nil))) (es_int)) (es_var (i := 3) rfl))) (es_op o2_ixS (es_var (i := 1) rfl) (es_op o2_sub (es_op o2_sub (es_cb cl_lenT (ea_cons (es_var (i := 1) rfl) (ea_nil))) (es_int)) (es_var (i := 3) rfl)))))) (ss_asg (es_op o2_add (es_var (i := 4) rfl) (es_int)) tg_name fun v_q_11 => ss_nx ⟨.inr rfl, ⟨.inr rfl, ⟨.inr rfl, ⟨.inr rfl, ⟨.inr rfl, trivial⟩⟩⟩⟩⟩) (ss_nx ⟨.inr rfl, ⟨.inr rfl, ⟨.inr rfl, ⟨.inr rfl, ⟨.inr rfl, trivial⟩⟩⟩⟩⟩)) (fun g12 => ss_nx ⟨.inr rfl, ⟨.inr rfl, ⟨.inr rfl, ⟨.inl rfl, ⟨.inr rfl, trivial⟩⟩⟩⟩⟩) (fun _ => ⟨0, rfl⟩))) (fun g13 => ss_last (ss_ret (es_cast cast_some (es_tup3 (ea_cons (es_var (i := 2) rfl) (ea_cons (es_op o2_sub (es_op o2_sub (es_cb cl_lenT (ea_cons (es_var (i := 0) rfl) (ea_nil))) (es_var (i := 2) rfl)) (es_var (i := 4) rfl)) (ea_cons (es_slice sl3_S (es_var (i := 1) rfl) (eo_some (es_var (i := 2) rfl)) (eo_some (es_op o2_sub (es_cb cl_lenT (ea_cons (es_var (i := 1) rfl) (ea_nil))) (es_var (i := 4) rfl)))) (ea_nil)))))))) (fun _ => ⟨0, rfl⟩)) (fun _ => ⟨0, rfl⟩)) (fun _ => ⟨0, rfl⟩)

theorem ok_law {f : Addr} {fd : FuncData} (Fn : Fun K "law" "law" s_law f fd) (T : Txt K mg) (D_law_row : Df P w K mg base "_law_row" 2 ["_law_script", "_law_first", "_law_last"] (sp K (α := (Scr × (Int × (Int × Unit)))) f0 (fun x => m_law_row x.1 x.2.1 x.2.2.1))) (D_law_draw : Df P w K mg base "_law_draw" 1 ["_law_box", "_law_many"] (sp K (α := (Int × Unit)) (fB K) (fun x => m_law_draw x.1))) (D_change : Df P w K mg base "change" 2 ["one", "two"] (sp K (α := (Tx × (Tx × Unit))) f0 (fun x => m_change x.1 x.2.1))) (D_law_due : Df P w K mg base "_law_due" 1 ["_law_one", "_law_two"] (sp K (α := (Tx × (Tx × Unit))) f0 (fun x => m_law_due x.1 x.2.1))) (D_changed : Df P w K mg base "changed" 1 ["one", "told"] (sp K (α := (Tx × ((Option (T3 Int Int Tx)) × Unit))) f0 (fun x => m_changed x.1 x.2.1))) : FnOk P w K mg base CX0 3 f fd ["_law_script"] (sp K (α := (Scr × Unit)) f0 (fun x => m_law x.1)) := by
  obtain ⟨f_law_row, fd_law_row, g_law_row, m_g_law_row, k_g_law_row, b_g_law_row⟩ := D_law_row.ex
  obtain ⟨f_law_draw, fd_law_draw, g_law_draw, m_g_law_draw, k_g_law_draw, b_g_law_draw⟩ := D_law_draw.ex
  obtain ⟨f_change, fd_change, g_change, m_g_change, k_g_change, b_g_change⟩ := D_change.ex
  obtain ⟨f_law_due, fd_law_due, g_law_due, m_g_law_due, k_g_law_due, b_g_law_due⟩ := D_law_due.ex
  obtain ⟨f_changed, fd_changed, g_changed, m_g_changed, k_g_changed, b_g_changed⟩ := D_changed.ex
  refine Fn.ok sc_law (sp_len (n := 1) fun _ => rfl) (fun cdv A outer s H vs Q E hr h => ?_)
  refine ⟨_, pss_cons (ps_set (i := 1) sc_law.nd rfl (Or.inr rfl) (pe_lst (pa_cons (pe_call g_law_row (hr.mono (by decide)) rfl m_g_law_row k_g_law_row b_g_law_row .nil pass0 (pa_cons (pv 0) (pa_cons (pe_int) (pa_cons (pe_int) (pa_nil))))) (pa_cons pe_int pa_nil)))) (pss_cons (ps_for PassesOwn.never rfl (pi_range1 rfl T.b_range (pa_cons (pe_int) (pa_nil))) (pg_name (i := 2) sc_law.nd rfl (Or.inl rfl)) (pss_cons (ps_set (i := 3) sc_law.nd rfl (Or.inl rfl) (pe_bm PySem.F.plainAttrs_str PySem.F.slot_str_join PySem.F.type_str_join mtJoin (pe_str) (pa_cons (pe_lc (own := [("_law_k", 5)]) rfl sc_law.nd (pi_range1 rfl T.b_range (pa_cons (pe_call g_law_draw (hr.mono (by decide)) rfl m_g_law_draw k_g_law_draw b_g_law_draw .nil pass0 (pa_cons (pv 1) (pa_cons (pe_int) (pa_nil)))) (pa_nil))) (blkOk_by (N := ["_law_script", "_law_box", "_law_turn", "_law_one", "_law_two", "_law_k", "_law_told", "_law_at", "_law_p", "_law_removed", "_law_many"]) (sc := defScope s_law) (by decide +kernel)) (fun _ _ _ _ _ => pg_name (i := 5) sc_law.nd rfl (Or.inl rfl)) (fun _ _ _ _ _ => pts_nil) (fun _ _ _ _ _ => pe_ix ix_str (pe_str) (pe_call g_law_draw (hr.mono (by decide)) rfl m_g_law_draw k_g_law_draw b_g_law_draw .nil pass0 (pa_cons (pv 1) (pa_cons (pe_int) (pa_nil)))) (fun _ _ => rfl))) (pa_nil)))) (pss_cons (ps_set (i := 4) sc_law.nd rfl (Or.inl rfl) (pv 3)) (pss_cons (ps_for PassesOwn.never rfl (pi_range1 rfl T.b_range (pa_cons (pe_call g_law_draw (hr.mono (by decide)) rfl m_g_law_draw k_g_law_draw b_g_law_draw .nil pass0 (pa_cons (pv 1) (pa_cons (pe_int) (pa_nil)))) (pa_nil))) (pg_name (i := 5) sc_law.nd rfl (Or.inl rfl)) (pss_cons (ps_set (i := 7) sc_law.nd rfl (Or.inl rfl) (pe_op op_mod (pe_callTy callInt1 (by rfl) T.b_int bt_int (pa_cons (pe_call g_law_draw (hr.mono (by decide)) rfl m_g_law_draw k_g_law_draw b_g_law_draw .nil pass0 (pa_cons (pv 1) (pa_cons (pe_int) (pa_nil)))) (pa_nil))) (pe_op op_add (pe_callB callLenT (by rfl) T.b_len bt_len (pa_cons (pv 4) (pa_nil))) (pe_int)))) (pss_cons (ps_set (i := 4) sc_law.nd rfl (Or.inl rfl) (pe_op opAddS (pe_op opAddS (pe_slice sl_str (pv 4) (po_none) (po_some (pv 7))) (pe_op opMulS (pe_ix ix_str (pe_str) (pe_call g_law_draw (hr.mono (by decide)) rfl m_g_law_draw k_g_law_draw b_g_law_draw .nil pass0 (pa_cons (pv 1) (pa_cons (pe_int) (pa_nil)))) (fun _ _ => rfl)) (pe_call g_law_draw (hr.mono (by decide)) rfl m_g_law_draw k_g_law_draw b_g_law_draw .nil pass0 (pa_cons (pv 1) (pa_cons (pe_int) (pa_nil)))))) (pe_slice sl_str (pv 4) (po_some (pe_op op_add (pv 7) (pe_call g_law_draw (hr.mono (by decide)) rfl m_g_law_draw k_g_law_draw b_g_law_draw .nil pass0 (pa_cons (pv 1) (pa_cons (pe_int) (pa_nil)))))) (po_none)))) (pss_nil)))) (pss_cons (ps_set (i := 6) sc_law.nd rfl (Or.inl rfl) (pe_call g_change (hr.mono (by decide)) rfl m_g_change k_g_change b_g_change .nil pass0 (pa_cons (pv 3) (pa_cons (pv 4) (pa_nil))))) (pss_cons (ps_if (PW.pt (pw_or (pt_cmpN (op_neD hr.units) (pv 6) (pe_call g_law_due (hr.mono (by decide)) rfl m_g_law_due k_g_law_due b_g_law_due .nil pass0 (pa_cons (pv 3) (pa_cons (pv 4) (pa_nil))))) (pw_or1 (pt_cmpN op_ne (pe_call g_changed (hr.mono (by decide)) rfl m_g_changed k_g_changed b_g_changed .nil pass0 (pa_cons (pv 3) (pa_cons (pv 6) (pa_nil)))) (pv 4))))) (pss_cons (ps_ret (pe_bl)) pss_nil) (pss_nil)) (pss_cons (ps_if (pt_cmpN opNotNon (pv 6) (pe_non)) (pss_cons (ps_for PassesOwn.never rfl (pi_range1 rfl T.b_range (pa_cons (pe_op op_add (pe_callB callLenT (by rfl) T.b_len bt_len (pa_cons (pv 3) (pa_nil))) (pe_int)) (pa_nil))) (pg_name (i := 8) sc_law.nd rfl (Or.inl rfl)) (pss_cons (ps_for PassesOwn.never rfl (pi_range1 rfl T.b_range (pa_cons (pe_callB (callMin2 rfl) (by rfl) T.b_min bt_min (pa_cons (pe_ix ix_tup (pv 6) (pe_int) (fun _ _ => rfl)) (pa_cons (pe_op op_sub (pe_callB callLenT (by rfl) T.b_len bt_len (pa_cons (pv 3) (pa_nil))) (pv 8)) (pa_nil)))) (pa_nil))) (pg_name (i := 9) sc_law.nd rfl (Or.inl rfl)) (pss_cons (ps_set (i := 10) sc_law.nd rfl (Or.inl rfl) (pe_op op_add (pe_op op_sub (pe_callB callLenT (by rfl) T.b_len bt_len (pa_cons (pv 4) (pa_nil))) (pe_callB callLenT (by rfl) T.b_len bt_len (pa_cons (pv 3) (pa_nil)))) (pv 9))) (pss_cons (ps_if (PW.pt (pw_and (pt_cmpN op_ge (pv 10) (pe_int)) (pw_and (pt_cmpN op_eq (pe_slice sl_str (pv 3) (po_none) (po_some (pv 8))) (pe_slice sl_str (pv 4) (po_none) (po_some (pv 8)))) (pw_and1 (pt_cmpN op_eq (pe_slice sl_str (pv 3) (po_some (pe_op op_add (pv 8) (pv 9))) (po_none)) (pe_slice sl_str (pv 4) (po_some (pe_op op_add (pv 8) (pv 10))) (po_none))))))) (pss_cons (ps_ret (pe_bl)) pss_nil) (pss_nil)) (pss_nil)))) (pss_nil))) (pss_nil)) (pss_nil)) (pss_nil)))))))) (pss_cons (ps_ret (pe_cmpN op_eq (pe_call g_changed (hr.mono (by decide)) rfl m_g_changed k_g_changed b_g_changed .nil pass0 (pa_cons (pe_str) (pa_cons (pe_non) (pa_nil)))) (pe_str))) pss_nil)), ?_⟩
  refine @run_body K (Scr × Unit) Bool Unit Unit _ _ f0 (fun x => m_law x.1) (fun x => mb_law x.1) (fun _ _ => [.un, .un, .un, .un, .un, .un, .un, .un, .un, .un, .un]) _ ["_law_script", "_law_box", "_law_turn", "_law_one", "_law_two", "_law_k", "_law_told", "_law_at", "_law_p", "_law_removed", "_law_many"] 0 vs H Q E h (fun _ => rfl) 11 1 (fun _ => rfl) rfl rfl (by decide) (fun x => ?_)
  obtain ⟨v_script, _⟩ := x
  show Ss K _ [Sl.of K v_script, .un, .un, .un, .un, .un, .un, .un, .un, .un, .un] f0 f0 (mb_law v_script) _
  exact ss_newB (i := 1) (es_callP (ea_cons (es_var (i := 0) rfl) (ea_cons (es_int) (ea_cons (es_int) (ea_nil))))) (ss_then (e1 := (fun g22 : Unit => [Sl.of K v_script, .own 0, .un, .un, .un, .un, .un, .un, .un, .un, .un])) (ss_for (c0 := ()) (ei_range1 (ea_cons (es_int) (ea_nil))) ⟨.inr rfl, ⟨.inr rfl, ⟨.inl rfl, ⟨.inl rfl, ⟨.inl rfl, ⟨.inl rfl, ⟨.inl rfl, ⟨.inl rfl, ⟨.inl rfl, ⟨.inl rfl, ⟨.inl rfl, trivial⟩⟩⟩⟩⟩⟩⟩⟩⟩⟩⟩ (fun _ => tg_name) (fun c1 x2 => ss_asg (es_bm mt2_join (es_str (by decide +kernel)) (ea_cons (es_lc (vs := [5]) (ei_range1 (ea_cons (es_call (ea_own (i := 1) (k := 0) rfl (ea_cons (es_int) (ea_nil))) (fun _ => rfl) (fun _ _ => rfl) (fun _ => rfl)) (ea_nil))) tg_name (tgw_name (by decide)) (fun x3 => et_yes) (fun x3 => es_op o2_ixS (es_str (by decide +kernel)) (es_call (ea_own (i := 1) (k := 0) rfl (ea_cons (es_int) (ea_nil))) (fun _ => rfl) (fun _ _ => rfl) (fun _ => rfl)))) (ea_nil))) tg_name fun v_one_4 => ss_asg (es_var (i := 3) rfl) tg_name fun v_two_5 => ss_then (e1 := (fun g10 : Tx => [Sl.of K v_script, .own 0, Sl.of K x2, Sl.of K v_one_4, Sl.of K g10, .un, .un, .un, .un, .un, .un])) (ss_for (c0 := v_two_5) (ei_range1 (ea_cons (es_call (ea_own (i := 1) (k := 0) rfl (ea_cons (es_int) (ea_nil))) (fun _ => rfl) (fun _ _ => rfl) (fun _ => rfl)) (ea_nil))) ⟨.inr rfl, ⟨.inr rfl, ⟨.inr rfl, ⟨.inr rfl, ⟨.inr rfl, ⟨.inl rfl, ⟨.inl rfl, ⟨.inl rfl, ⟨.inl rfl, ⟨.inl rfl, ⟨.inl rfl, trivial⟩⟩⟩⟩⟩⟩⟩⟩⟩⟩⟩ (fun _ => tg_name) (fun c6 x7 => ss_asg (es_op o2_mod (es_cb cl_intI (ea_cons (es_call (ea_own (i := 1) (k := 0) rfl (ea_cons (es_int) (ea_nil))) (fun _ => rfl) (fun _ _ => rfl) (fun _ => rfl)) (ea_nil))) (es_op o2_add (es_cb cl_lenT (ea_cons (es_var (i := 4) rfl) (ea_nil))) (es_int))) tg_name fun v_at_8 => ss_asg (es_op o2_addS (es_op o2_addS (es_slice sl3_S (es_var (i := 4) rfl) (eo_none) (eo_some (es_var (i := 7) rfl))) (es_op o2_mulS (es_op o2_ixS (es_str (by decide +kernel)) (es_call (ea_own (i := 1) (k := 0) rfl (ea_cons (es_int) (ea_nil))) (fun _ => rfl) (fun _ _ => rfl) (fun _ => rfl))) (es_call (ea_own (i := 1) (k := 0) rfl (ea_cons (es_int) (ea_nil))) (fun _ => rfl) (fun _ _ => rfl) (fun _ => rfl)))) (es_slice sl3_S (es_var (i := 4) rfl) (eo_some (es_op o2_add (es_var (i := 7) rfl) (es_call (ea_own (i := 1) (k := 0) rfl (ea_cons (es_int) (ea_nil))) (fun _ => rfl) (fun _ _ => rfl) (fun _ => rfl)))) (eo_none))) tg_name fun v_two_9 => ss_nx ⟨.inr rfl, ⟨.inr rfl, ⟨.inr rfl, ⟨.inr rfl, ⟨.inr rfl, ⟨.inl rfl, ⟨.inl rfl, ⟨.inl rfl, ⟨.inl rfl, ⟨.inl rfl, ⟨.inl rfl, trivial⟩⟩⟩⟩⟩⟩⟩⟩⟩⟩⟩)) (fun g10 => ss_asg (es_callP (ea_cons (es_var (i := 3) rfl) (ea_cons (es_var (i := 4) rfl) (ea_nil)))) tg_name fun v_told_11 => ss_then (e1 := (fun g12 : Unit => [Sl.of K v_script, .own 0, Sl.of K x2, Sl.of K v_one_4, Sl.of K g10, .un, Sl.of K v_told_11, .un, .un, .un, .un])) (ss_if (et_or (et_test (es_op (o2_neD (K := K)) (es_var (i := 6) rfl) (es_callP (ea_cons (es_var (i := 3) rfl) (ea_cons (es_var (i := 4) rfl) (ea_nil)))))) (et_test (es_op o2_neS (es_callP (ea_cons (es_var (i := 3) rfl) (ea_cons (es_var (i := 6) rfl) (ea_nil)))) (es_var (i := 4) rfl)))) (ss_last (ss_ret (es_bl))) (ss_nx ⟨.inr rfl, ⟨.inr rfl, ⟨.inr rfl, ⟨.inr rfl, ⟨.inr rfl, ⟨.inl rfl, ⟨.inr rfl, ⟨.inl rfl, ⟨.inl rfl, ⟨.inl rfl, ⟨.inl rfl, trivial⟩⟩⟩⟩⟩⟩⟩⟩⟩⟩⟩)) (fun g12 => ss_then (e1 := (fun g21 : Unit => [Sl.of K v_script, .own 0, Sl.of K x2, Sl.of K v_one_4, Sl.of K g10, .un, Sl.of K v_told_11, .un, .un, .un, .un])) (ss_if (et_test (es_op o2_notN (es_var (i := 6) rfl) (es_non))) (ss_then (e1 := (fun g20 : Unit => [Sl.of K v_script, .own 0, Sl.of K x2, Sl.of K v_one_4, Sl.of K g10, .un, Sl.of K v_told_11, .un, .un, .un, .un])) (ss_for (c0 := ()) (ei_range1 (ea_cons (es_op o2_add (es_cb cl_lenT (ea_cons (es_var (i := 3) rfl) (ea_nil))) (es_int)) (ea_nil))) ⟨.inr rfl, ⟨.inr rfl, ⟨.inr rfl, ⟨.inr rfl, ⟨.inr rfl, ⟨.inl rfl, ⟨.inr rfl, ⟨.inl rfl, ⟨.inl rfl, ⟨.inl rfl, ⟨.inl rfl, trivial⟩⟩⟩⟩⟩⟩⟩⟩⟩⟩⟩ (fun _ => tg_name) (fun c13 x14 => ss_then (e1 := (fun g19 : Unit => [Sl.of K v_script, .own 0, Sl.of K x2, Sl.of K v_one_4, Sl.of K g10, .un, Sl.of K v_told_11, .un, Sl.of K x14, .un, .un])) (ss_for (c0 := ()) (ei_range1 (ea_cons (es_cb cl_min2 (ea_cons (es_op o2_ix31 (es_castO castO_id (es_var (i := 6) rfl)) (es_int)) (ea_cons (es_op o2_sub (es_cb cl_lenT (ea_cons (es_var (i := 3) rfl) (ea_nil))) (es_var (i := 8) rfl)) (ea_nil)))) (ea_nil))) ⟨.inr rfl, ⟨.inr rfl, ⟨.inr rfl, ⟨.inr rfl, ⟨.inr rfl, ⟨.inl rfl, ⟨.inr rfl, ⟨.inl rfl, ⟨.inr rfl, ⟨.inl rfl, ⟨.inl rfl, trivial⟩⟩⟩⟩⟩⟩⟩⟩⟩⟩⟩ (fun _ => tg_name) (fun c15 x16 => ss_asg (es_op o2_add (es_op o2_sub (es_cb cl_lenT (ea_cons (es_var (i := 4) rfl) (ea_nil))) (es_cb cl_lenT (ea_cons (es_var (i := 3) rfl) (ea_nil)))) (es_var (i := 9) rfl)) tg_name fun v_many_17 => ss_then (e1 := (fun g18 : Unit => [Sl.of K v_script, .own 0, Sl.of K x2, Sl.of K v_one_4, Sl.of K g10, .un, Sl.of K v_told_11, .un, Sl.of K x14, Sl.of K x16, Sl.of K v_many_17])) (ss_if (et_and (et_test (es_op o2_ge (es_var (i := 10) rfl) (es_int))) (et_and (et_test (es_op o2_eqS (es_slice sl3_S (es_var (i := 3) rfl) (eo_none) (eo_some (es_var (i := 8) rfl))) (es_slice sl3_S (es_var (i := 4) rfl) (eo_none) (eo_some (es_var (i := 8) rfl))))) (et_test (es_op o2_eqS (es_slice sl3_S (es_var (i := 3) rfl) (eo_some (es_op o2_add (es_var (i := 8) rfl) (es_var (i := 9) rfl))) (eo_none)) (es_slice sl3_S (es_var (i := 4) rfl) (eo_some (es_op o2_add (es_var (i := 8) rfl) (es_var (i := 10) rfl))) (eo_none)))))) (ss_last (ss_ret (es_bl))) (ss_nx ⟨.inr rfl, ⟨.inr rfl, ⟨.inr rfl, ⟨.inr rfl, ⟨.inr rfl, ⟨.inl rfl, ⟨.inr rfl, ⟨.inl rfl, ⟨.inr rfl, ⟨.inr rfl, ⟨.inr rfl, trivial⟩⟩⟩⟩⟩⟩⟩⟩⟩⟩⟩)) (fun g18 => ss_nx ⟨.inr rfl, ⟨.inr rfl, ⟨.inr rfl, ⟨.inr rfl, ⟨.inr rfl, ⟨.inl rfl, ⟨.inr rfl, ⟨.inl rfl, ⟨.inr rfl, ⟨.inl rfl, ⟨.inl rfl, trivial⟩⟩⟩⟩⟩⟩⟩⟩⟩⟩⟩) (fun _ => ⟨1, rfl⟩))) (fun g19 => ss_nx ⟨.inr rfl, ⟨.inr rfl, ⟨.inr rfl, ⟨.inr rfl, ⟨.inr rfl, ⟨.inl rfl, ⟨.inr rfl, ⟨.inl rfl, ⟨.inl rfl, ⟨.inl rfl, ⟨.inl rfl, trivial⟩⟩⟩⟩⟩⟩⟩⟩⟩⟩⟩) (fun _ => ⟨1, rfl⟩))) (fun g20 => ss_nx ⟨.inr rfl, ⟨.inr rfl, ⟨.inr rfl, ⟨.inr rfl, ⟨.inr rfl, ⟨.inl rfl, ⟨.inr rfl, ⟨.inl rfl, ⟨.inl rfl, ⟨.inl rfl, ⟨.inl rfl, trivial⟩⟩⟩⟩⟩⟩⟩⟩⟩⟩⟩) (fun _ => ⟨1, rfl⟩)) (ss_nx ⟨.inr rfl, ⟨.inr rfl, ⟨.inr rfl, ⟨.inr rfl, ⟨.inr rfl, ⟨.inl rfl, ⟨.inr rfl, ⟨.inl rfl, ⟨.inl rfl, ⟨.inl rfl, ⟨.inl rfl, trivial⟩⟩⟩⟩⟩⟩⟩⟩⟩⟩⟩)) (fun g21 => ss_nx ⟨.inr rfl, ⟨.inr rfl, ⟨.inl rfl, ⟨.inl rfl, ⟨.inl rfl, ⟨.inl rfl, ⟨.inl rfl, ⟨.inl rfl, ⟨.inl rfl, ⟨.inl rfl, ⟨.inl rfl, trivial⟩⟩⟩⟩⟩⟩⟩⟩⟩⟩⟩) (fun _ => ⟨1, rfl⟩)) (fun _ => ⟨1, rfl⟩)) (fun _ => ⟨1, rfl⟩))) (fun g22 => ss_last (ss_retD (es_op o2_eqS (es_callP (ea_cons (es_str (by decide +kernel)) (ea_cons (es_noneO) (ea_nil)))) (es_str (by decide +kernel))) (fun _ => ⟨0, rfl⟩))) (fun _ => ⟨0, rfl⟩))
end
end My

namespace My
open PySem L2 Tw
theorem all_mk {w : World} {K : PySem.W.Frag} {h : Heap} {mg : Str → Option Value} {fa f : Addr} (X : K.In h) (G : h.Ns mainGlobals mg) (hfa : mg "law" = some (.ref fa)) (T : Txt K mg) (R_common : Raw K mg "_common" ["one", "two"] s_common) (R_change : Raw K mg "change" ["one", "two"] s_change) (R_changed : Raw K mg "changed" ["one", "told"] s_changed) (R_law_cell : Raw K mg "_law_cell" ["_law_script", "_law_k"] s_law_cell) (R_law_row : Raw K mg "_law_row" ["_law_script", "_law_first", "_law_last"] s_law_row) (R_law_draw : Raw K mg "_law_draw" ["_law_box", "_law_many"] s_law_draw) (R_law_due : Raw K mg "_law_due" ["_law_one", "_law_two"] s_law_due)
    {oc : Value} {od an : Option Addr} {osl : Array (Option Value)} {kV doc pm cdv ct : Value} (a : PySem.W.nsIn K mainGlobals "law" = some (some (.ref f))) (l : K.lookup f = some ⟨oc, od, .func (PySem.W.fnOf "law" "law" (defArgs s_law) (defBody s_law) (defScope s_law) .none kV doc pm an cdv ct), osl⟩) (c : PySem.W.codeIn K cdv "law" = true) (k : PySem.W.keepIn K (.ref f) = true) :
    ∃ fd : FuncData, (∀ (s : Shared) (v : Value), BindsTo s fd ⟨[v], []⟩ [("_law_script", v)]) ∧ ∀ base : Heap, K.In base → base.Ns mainGlobals mg → FnOk PySem.Challenge.pw_gapsalike_k21_changes w K mg base CX0 3 fa fd ["_law_script"] (sp K (α := Scr × Unit) f0 (fun x => m_law x.1)) := by
  have e := hfa.symm.trans (PySem.W.mg_of X G a)
  cases e
  refine ⟨PySem.W.fnOf "law" "law" (defArgs s_law) (defBody s_law) (defScope s_law) .none kV doc pm an cdv ct, fun s v => .of_eq rfl, fun base _ _ => ?_⟩
  have D_common := ok_common (P := PySem.Challenge.pw_gapsalike_k21_changes) (w := w) (base := base) R_common T 
  have D_change := ok_change (P := PySem.Challenge.pw_gapsalike_k21_changes) (w := w) (base := base) R_change T D_common
  have D_changed := ok_changed (P := PySem.Challenge.pw_gapsalike_k21_changes) (w := w) (base := base) R_changed T 
  have D_law_cell := ok_law_cell (P := PySem.Challenge.pw_gapsalike_k21_changes) (w := w) (base := base) R_law_cell T 
  have D_law_row := ok_law_row (P := PySem.Challenge.pw_gapsalike_k21_changes) (w := w) (base := base) R_law_row T D_law_cell
  have D_law_draw := ok_law_draw (P := PySem.Challenge.pw_gapsalike_k21_changes) (w := w) (base := base) R_law_draw T 
  have D_law_due := ok_law_due (P := PySem.Challenge.pw_gapsalike_k21_changes) (w := w) (base := base) R_law_due T 
  exact ok_law (fun_mk (st := s_law) l c k) T D_law_row D_law_draw D_change D_law_due D_changed
theorem walk (hlaw : ∀ ns : List Int, ns.length ≤ 63 → m_law ⟨ns⟩ () = some (true, ())) {l : PySem.W.OpenLaw} {q : Program} {loose : List Str} {XP : (Str → Option Value) → Heap → Prop} {YP : World → Heap → Prop} {d : DefRec} {K : Params → PySem.W.Frag} (hl : l.prog = PySem.Challenge.pw_gapsalike_k21_changes) (hn : l.most = some 63) (hdf : d.params.defaults = [])
    (hY : ∀ (w : World) (h : Heap), YP w h → (K w.params).In h)
    (F : ∀ (w : World) (mg : Str → Option Value) (fa : Addr) (h : Heap), (K w.params).In h → h.Ns mainGlobals mg → mg d.name = some (.ref fa) →
      ∃ fd : FuncData, (∀ (s : Shared) (u : Value), BindsTo s fd ⟨[u], []⟩ [("_law_script", u)]) ∧ ∀ base : Heap, (K w.params).In base → base.Ns mainGlobals mg → FnOk l.prog w (K w.params) mg base CX0 3 fa fd ["_law_script"] (sp (K w.params) (α := Scr × Unit) f0 (fun x => m_law x.1))) :
    PySem.W.WalkO q loose XP YP l.row.toRowW d [] (fun f vs => PySem.call f vs) :=
  L2.walk_of (n := 63) (k := 3) (x := "_law_script") (CX := fun _ => CX0) (sp := fun w => sp (K w.params) (α := Scr × Unit) f0 (fun x => m_law x.1)) hn (by decide) hdf ⟨rfl, by decide, by decide⟩ hY F (fun _ _ a ns hl _ hS => sp_law hS (hlaw ns hl)) fun _ _ _ _ _ z => z
end My
open PySem PySem.W PyProof.Rows
set_option maxRecDepth 100000 in
set_option maxHeartbeats 0 in
theorem PySem.Challenge.cw_gapsalike_k21_changes_holds : PySem.Challenge.rw_gapsalike_k21_changes.Holds := by
  w_on; o_law; k_head; (case hw => w_witness2)
  k_fill
  refine My.walk My.law_true (l := PySem.Challenge.rw_gapsalike_k21_changes) rfl rfl rfl (fun w h Y => PySem.W.kIn_of Y) ?F
  case F =>
    intro w mg fa h KX G hmg
    refine' My.all_mk KX G hmg ⟨PySem.W.mg_none_of KX G ?z_abs, PySem.W.mg_none_of KX G ?z_int, PySem.W.mg_none_of KX G ?z_len, PySem.W.mg_none_of KX G ?z_min, PySem.W.mg_none_of KX G ?z_range⟩ (Tw.raw_mk KX G (fun _ _ _ _ _ _ us hl => match us, hl with | [_, _], _ => rfl) ?a_common ?l_common ?c_common ?k_common) (Tw.raw_mk KX G (fun _ _ _ _ _ _ us hl => match us, hl with | [_, _], _ => rfl) ?a_change ?l_change ?c_change ?k_change) (Tw.raw_mk KX G (fun _ _ _ _ _ _ us hl => match us, hl with | [_, _], _ => rfl) ?a_changed ?l_changed ?c_changed ?k_changed) (Tw.raw_mk KX G (fun _ _ _ _ _ _ us hl => match us, hl with | [_, _], _ => rfl) ?a_law_cell ?l_law_cell ?c_law_cell ?k_law_cell) (Tw.raw_mk KX G (fun _ _ _ _ _ _ us hl => match us, hl with | [_, _, _], _ => rfl) ?a_law_row ?l_law_row ?c_law_row ?k_law_row) (Tw.raw_mk KX G (fun _ _ _ _ _ _ us hl => match us, hl with | [_, _], _ => rfl) ?a_law_draw ?l_law_draw ?c_law_draw ?k_law_draw) (Tw.raw_mk KX G (fun _ _ _ _ _ _ us hl => match us, hl with | [_, _], _ => rfl) ?a_law_due ?l_law_due ?c_law_due ?k_law_due) ?a ?l ?c ?k
    (case a_common => k_is)
    (case l_common => k_is)
    (case c_common => k_is)
    (case k_common => k_is)
    (case a_change => k_is)
    (case l_change => k_is)
    (case c_change => k_is)
    (case k_change => k_is)
    (case a_changed => k_is)
    (case l_changed => k_is)
    (case c_changed => k_is)
    (case k_changed => k_is)
    (case a_law_cell => k_is)
    (case l_law_cell => k_is)
    (case c_law_cell => k_is)
    (case k_law_cell => k_is)
    (case a_law_row => k_is)
    (case l_law_row => k_is)
    (case c_law_row => k_is)
    (case k_law_row => k_is)
    (case a_law_draw => k_is)
    (case l_law_draw => k_is)
    (case c_law_draw => k_is)
    (case k_law_draw => k_is)
    (case a_law_due => k_is)
    (case l_law_due => k_is)
    (case c_law_due => k_is)
    (case k_law_due => k_is)
    (case z_abs => k_is)
    (case z_int => k_is)
    (case z_len => k_is)
    (case z_min => k_is)
    (case z_range => k_is)
    (case a => k_is)
    (case l => k_is)
    (case c => k_is)
    (case k => k_is)
#print axioms PySem.Challenge.cw_gapsalike_k21_changes_holds
