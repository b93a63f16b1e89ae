import PyProof.Rows.All
import Wide.All
import OpenK.AllK
import Wide.FinOn
import HandS.ForMost
import HandS.ForExc
import HandS.WideBits
import HandS.TryMany
import HandS.ExcIs
import HandS.IsInst
import HandS.EndBits
import HandS.Flow
import HandS.Zip
import HandS.Defaults
import HandS.SortRule
import HandS.SortInts
import HandS.Conv
import HandS.Style
import KE.DataCmp
import PySem.Challenge.RW_timekernel_k56_threads_that_are_never_sa
set_option Elab.async false
set_option linter.all false
set_option maxRecDepth 100000
set_option maxHeartbeats 4000000
/-! L3: functional mirrors of defs over an own heap (a list of objects), and their walk over the hand layer. -/
namespace L3
open PySem L2

/-- a value of the mirror: ref n, the n-th object of the mirror's heap; gl a, an object of the heap itself, by its address -/
inductive IV where
  | non | bl (b : Bool) | int (i : Int) | str (x : Str) | ref (n : Nat) | gl (a : Addr) | ty (n : String)
  deriving DecidableEq
def IV.toV : IV → V
  | .non => .non
  | .bl b => .bl b
  | .int i => .int i
  | .str x => .str x
  | .ref _ => .non
  | .gl a => .ref a
  | .ty n => .ty n
/-- an object of the mirror's heap; ro: a list that is only read; rot: a tuple of the written part -/
inductive MO where
  | lst (xs : List IV) | tup (xs : List IV) | ro (xs : List IV) | rot (xs : List IV) | dct
  deriving DecidableEq
abbrev IH := List MO
abbrev Env := List (Option IV)
inductive Res (α : Type) where
  | ok (a : α) (ih : IH) | exc (c : Addr) (ih : IH) | stuck
inductive Fl where
  | next (env : Env) | brk (env : Env) | cont (env : Env) | ret (v : IV)
inductive RS where
  | ok (f : Fl) (ih : IH) | exc (c : Addr) (env : Env) (ih : IH) | stuck
def Res.bind {α β : Type} (r : Res α) (k : α → IH → Res β) : Res β := match r with
  | .ok a ih => k a ih
  | .exc c ih => .exc c ih
  | .stuck => .stuck
@[simp] theorem Res.bind_ok {α β : Type} (a : α) (ih : IH) (k : α → IH → Res β) : (Res.ok a ih).bind k = k a ih := rfl
@[simp] theorem Res.bind_exc {α β : Type} (c : Addr) (ih : IH) (k : α → IH → Res β) : (Res.exc c ih).bind k = .exc c ih := rfl
@[simp] theorem Res.bind_stuck {α β : Type} (k : α → IH → Res β) : (Res.stuck : Res α).bind k = .stuck := rfl
/-- an expression's result within a statement -/
def Res.stm {α : Type} (r : Res α) (env : Env) (k : α → IH → RS) : RS := match r with
  | .ok a ih => k a ih
  | .exc c ih => .exc c env ih
  | .stuck => .stuck
@[simp] theorem Res.stm_ok {α : Type} (a : α) (ih : IH) (env : Env) (k : α → IH → RS) : (Res.ok a ih).stm env k = k a ih := rfl
@[simp] theorem Res.stm_exc {α : Type} (c : Addr) (ih : IH) (env : Env) (k : α → IH → RS) : (Res.exc c ih : Res α).stm env k = .exc c env ih := rfl
@[simp] theorem Res.stm_stuck {α : Type} (env : Env) (k : α → IH → RS) : (Res.stuck : Res α).stm env k = .stuck := rfl

/-! ### what the mirror's heap says of the heap -/
def R (r : List Addr) (x : IV) (y : V) : Prop := match x with
  | .ref n => ∃ a, r[n]? = some a ∧ y = .ref a
  | z => y = z.toV
def Rs (r : List Addr) : List IV → List V → Prop := Paired (R r)
def RO (K : PySem.W.Frag) (r : List Addr) (H : Hp) (a : Addr) : MO → Prop
  | .lst xs => ∃ ys, H a = some (.lst ys) ∧ Rs r xs ys
  | .tup xs => ∃ ys, H a = some (.tup ys) ∧ Rs r xs ys
  | .ro xs => ∃ ys, ((∃ o, H a = some (.frz o (.lst ys))) ∨ SqL K (fun _ => none) a ys) ∧ Rs r xs ys
  | .rot xs => ∃ ys, SqT K (fun _ => none) a ys ∧ Rs r xs ys
  | .dct => ∃ kvs, H a = some (.dK kvs)
def still : MO → Bool
  | .lst _ => false
  | .tup _ => false
  | .ro _ => true
  | .rot _ => true
  | .dct => false
structure Rel (K : PySem.W.Frag) (r : List Addr) (ih : IH) (H : Hp) : Prop where
  len : r.length = ih.length
  get : ∀ (n : Nat) (a : Addr) (o : MO), r[n]? = some a → ih[n]? = some o → RO K r H a o
  inj : ∀ (n m : Nat) (a : Addr) (o u : MO), r[n]? = some a → r[m]? = some a → ih[n]? = some o → ih[m]? = some u → still o = false → still u = false → n = m
def REnv (r : List Addr) (env : Env) (σ : St) : Prop := env.length = σ.length ∧ ∀ (i : Nat) (v : IV), env[i]? = some (some v) → ∃ u, σ[i]? = some (some u) ∧ R r v u

theorem pre_get {r r' : List Addr} (p : r <+: r') {n : Nat} {a : Addr} (h : r[n]? = some a) : r'[n]? = some a := by
  obtain ⟨t, rfl⟩ := p
  rw [List.getElem?_append_left (List.getElem?_eq_some_iff.mp h).1]
  exact h
theorem R.mono {r r' : List Addr} (p : r <+: r') {x : IV} {y : V} (h : R r x y) : R r' x y := by
  cases x with
  | ref n =>
    obtain ⟨a, h1, h2⟩ := h
    exact ⟨a, pre_get p h1, h2⟩
  | _ => exact h
theorem Rs.mono {r r' : List Addr} (p : r <+: r') {xs : List IV} {ys : List V} (h : Rs r xs ys) : Rs r' xs ys := Paired.mapP h fun _ _ q => q.mono p
theorem REnv.mono {r r' : List Addr} (p : r <+: r') {env : Env} {σ : St} (h : REnv r env σ) : REnv r' env σ :=
  ⟨h.1, fun i v e => let ⟨u, h1, h2⟩ := h.2 i v e; ⟨u, h1, h2.mono p⟩⟩
theorem REnv.set {r : List Addr} {env : Env} {σ : St} (h : REnv r env σ) {x : IV} {y : V} (q : R r x y) (i : Nat) : REnv r (env.set i (some x)) (σ.set i (some y)) := by
  refine ⟨by rw [List.length_set, List.length_set, h.1], fun j v e => ?_⟩
  by_cases hj : i = j
  · subst hj
    by_cases hl : i < env.length
    · rw [List.getElem?_set_self hl] at e
      cases e
      exact ⟨y, List.getElem?_set_self (by rw [← h.1]; exact hl), q⟩
    · rw [List.getElem?_eq_none (by simpa using hl)] at e
      cases e
  · rw [List.getElem?_set_ne hj] at e
    obtain ⟨u, h1, h2⟩ := h.2 j v e
    exact ⟨u, by rw [List.getElem?_set_ne hj]; exact h1, h2⟩
theorem REnv.setN {r : List Addr} {env : Env} {σ : St} (h : REnv r env σ) (i : Nat) : REnv r (env.set i none) (σ.set i none) := by
  refine ⟨by rw [List.length_set, List.length_set, h.1], fun j v e => ?_⟩
  by_cases hj : i = j
  · subst hj
    by_cases hl : i < env.length
    · rw [List.getElem?_set_self hl] at e
      cases e
    · rw [List.getElem?_eq_none (by simpa using hl)] at e
      cases e
  · rw [List.getElem?_set_ne hj] at e
    obtain ⟨u, h1, h2⟩ := h.2 j v e
    exact ⟨u, by rw [List.getElem?_set_ne hj]; exact h1, h2⟩
def wipeI (env : Env) : List Nat → Env
  | [] => env
  | v :: vs => (wipeI env vs).set v none
theorem REnv.wipe {r : List Addr} {env : Env} {σ : St} (h : REnv r env σ) : ∀ vs : List Nat, REnv r (wipeI env vs) (wipe σ vs)
  | [] => h
  | v :: vs => (REnv.wipe h vs).setN v
theorem REnv.setO {r : List Addr} {env : Env} {σ : St} (h : REnv r env σ) (i : Nat) (y : Option V) : REnv r (env.set i none) (σ.set i y) := by
  refine ⟨by rw [List.length_set, List.length_set, h.1], fun j v e => ?_⟩
  by_cases hj : i = j
  · subst hj
    by_cases hl : i < env.length
    · rw [List.getElem?_set_self hl] at e
      cases e
    · rw [List.getElem?_eq_none (by simpa using hl)] at e
      cases e
  · rw [List.getElem?_set_ne hj] at e
    obtain ⟨u, h1, h2⟩ := h.2 j v e
    exact ⟨u, by rw [List.getElem?_set_ne hj]; exact h1, h2⟩

theorem Rs.get {r : List Addr} : ∀ {xs : List IV} {ys : List V} {i : Nat} {x : IV}, Rs r xs ys → xs[i]? = some x → ∃ y, ys[i]? = some y ∧ R r x y
  | _, _, _, _, .nil, e => by simp at e
  | _, _, 0, _, .cons q _, e => by simp at e; subst e; exact ⟨_, rfl, q⟩
  | _, _, i + 1, x, .cons _ t, e => by
    obtain ⟨u, h1, h2⟩ := Rs.get (i := i) (x := x) t (by simpa using e)
    exact ⟨u, by simpa using h1, h2⟩
theorem Rs.length {r : List Addr} {xs : List IV} {ys : List V} (h : Rs r xs ys) : xs.length = ys.length := Paired.length h
theorem Rs.append {r : List Addr} : ∀ {xs ys : List IV} {us ws : List V}, Rs r xs us → Rs r ys ws → Rs r (xs ++ ys) (us ++ ws)
  | _, _, _, _, .nil, s => s
  | _, _, _, _, .cons q t, s => .cons q (Rs.append t s)
theorem Rs.set {r : List Addr} {x : IV} {u : V} (q : R r x u) : ∀ {xs : List IV} {us : List V} (i : Nat), Rs r xs us → Rs r (xs.set i x) (us.set i u)
  | _, _, _, .nil => .nil
  | _, _, 0, .cons _ t => .cons q t
  | _, _, i + 1, .cons q' t => .cons q' (Rs.set q i t)
theorem Rs.take {r : List Addr} : ∀ {xs : List IV} {us : List V} (n : Nat), Rs r xs us → Rs r (xs.take n) (us.take n)
  | _, _, 0, _ => .nil
  | _, _, _ + 1, .nil => .nil
  | _, _, n + 1, .cons q t => .cons q (Rs.take n t)
theorem Rs.drop {r : List Addr} : ∀ {xs : List IV} {us : List V} (n : Nat), Rs r xs us → Rs r (xs.drop n) (us.drop n)
  | _, _, 0, q => q
  | _, _, _ + 1, .nil => .nil
  | _, _, n + 1, .cons _ t => Rs.drop n t

theorem SqL.ofK {K : PySem.W.Frag} {H : Hp} {a : Addr} {ys : List V} (h : SqL K (fun _ => none) a ys) : SqL K H a ys := by
  rcases h with (h | ⟨o, h⟩) | h
  · cases h
  · cases h
  · exact .inr h
theorem SqT.ofK {K : PySem.W.Frag} {H : Hp} {a : Addr} {ys : List V} (h : SqT K (fun _ => none) a ys) : SqT K H a ys := by
  rcases h with (h | ⟨o, h⟩) | h
  · cases h
  · cases h
  · exact .inr h

section
variable {K : PySem.W.Frag} {r r' : List Addr} {ih ih' : IH} {H H' : Hp}
theorem Rel.at (h : Rel K r ih H) {n : Nat} {o : MO} (e : ih[n]? = some o) : ∃ a, r[n]? = some a ∧ RO K r H a o := by
  have hl := (List.getElem?_eq_some_iff.mp e).1
  have hr : n < r.length := by rw [h.len]; exact hl
  exact ⟨r[n], List.getElem?_eq_getElem hr, h.get n _ o (List.getElem?_eq_getElem hr) e⟩
theorem RO.mono (p : r <+: r') {a : Addr} {o : MO} (h : RO K r H a o) : RO K r' H a o := by
  cases o with
  | lst xs => obtain ⟨ys, h1, h2⟩ := h; exact ⟨ys, h1, h2.mono p⟩
  | tup xs => obtain ⟨ys, h1, h2⟩ := h; exact ⟨ys, h1, h2.mono p⟩
  | ro xs => obtain ⟨ys, h1, h2⟩ := h; exact ⟨ys, h1, h2.mono p⟩
  | rot xs => obtain ⟨ys, h1, h2⟩ := h; exact ⟨ys, h1, h2.mono p⟩
  | dct => exact h
/-- the object's own entry is all that counts -/
theorem RO.heap {a : Addr} {o : MO} (h : RO K r H a o) (e : still o = true ∨ H' a = H a) (e2 : ∀ o' u, H a = some (.frz o' u) → H' a = some (.frz o' u)) : RO K r H' a o := by
  cases o with
  | lst xs =>
    obtain ⟨ys, h1, h2⟩ := h
    rcases e with e | e
    · cases e
    · exact ⟨ys, by rw [e]; exact h1, h2⟩
  | tup xs =>
    obtain ⟨ys, h1, h2⟩ := h
    rcases e with e | e
    · cases e
    · exact ⟨ys, by rw [e]; exact h1, h2⟩
  | ro xs =>
    obtain ⟨ys, h1, h2⟩ := h
    rcases h1 with ⟨o', h1⟩ | h1
    · exact ⟨ys, .inl ⟨o', e2 _ _ h1⟩, h2⟩
    · exact ⟨ys, .inr h1, h2⟩
  | rot xs => obtain ⟨ys, h1, h2⟩ := h; exact ⟨ys, h1, h2⟩
  | dct =>
    obtain ⟨kvs, h1⟩ := h
    rcases e with e | e
    · cases e
    · exact ⟨kvs, by rw [e]; exact h1⟩
/-- a new object -/
theorem Rel.new (h : Rel K r ih H) {p : Addr} (hp : H p = none) {o : MO} {u : HO} (hs : still o = false) (ho : ∀ H', H' p = some u → RO K r H' p o) : Rel K (r ++ [p]) (ih ++ [o]) (upd H p u) := by
  have pre : r <+: r ++ [p] := ⟨[p], rfl⟩
  have off : ∀ {n : Nat} {b : Addr}, (r ++ [p])[n]? = some b → r[n]? = some b ∨ (n = r.length ∧ b = p) := fun {n b} e => by
    by_cases hn : n < r.length
    · rw [List.getElem?_append_left hn] at e
      exact .inl e
    · rw [List.getElem?_append_right (by omega)] at e
      have hz : n - r.length = 0 := by
        by_cases hz : n - r.length = 0
        · exact hz
        · rw [List.getElem?_eq_none (by simp; omega)] at e
          cases e
      rw [hz] at e
      cases e
      exact .inr ⟨by omega, rfl⟩
  have ofi : ∀ {n : Nat} {x : MO}, n < r.length → (ih ++ [o])[n]? = some x → ih[n]? = some x := fun {n x} hn e => by
    rw [List.getElem?_append_left (by rw [← h.len]; exact hn)] at e
    exact e
  refine ⟨by rw [List.length_append, List.length_append, h.len]; rfl, fun n a x e1 e2 => ?_, fun n m a x y e1 e2 e3 e4 s1 s2 => ?_⟩
  · rcases off e1 with e | ⟨e, rfl⟩
    · have hn := (List.getElem?_eq_some_iff.mp e).1
      have q := h.get n a x e (ofi hn e2)
      by_cases ha : a = p
      · subst ha
        refine (q.heap (H' := upd H a u) ?_ fun o' u' z => by rw [hp] at z; cases z).mono pre
        cases x with
        | lst xs => obtain ⟨ys, z, _⟩ := q; rw [hp] at z; cases z
        | tup xs => obtain ⟨ys, z, _⟩ := q; rw [hp] at z; cases z
        | ro xs => exact .inl rfl
        | rot xs => exact .inl rfl
        | dct => obtain ⟨kvs, z⟩ := q; rw [hp] at z; cases z
      · exact (q.heap (H' := upd H p u) (.inr (upd_ne ha)) fun o' u' z => by rw [upd_ne ha]; exact z).mono pre
    · subst e
      rw [h.len, List.getElem?_append_right (Nat.le_refl _), Nat.sub_self] at e2
      cases e2
      exact (ho _ upd_same).mono pre
  · have low : ∀ {n : Nat} {x : MO}, r[n]? = some p → (ih ++ [o])[n]? = some x → still x = false → False := fun {n x} z1 z2 z3 => by
      have hn := (List.getElem?_eq_some_iff.mp z1).1
      have q := h.get n p x z1 (ofi hn z2)
      cases x with
      | lst xs => obtain ⟨ys, z, _⟩ := q; rw [hp] at z; cases z
      | tup xs => obtain ⟨ys, z, _⟩ := q; rw [hp] at z; cases z
      | ro xs => cases z3
      | rot xs => cases z3
      | dct => obtain ⟨kvs, z⟩ := q; rw [hp] at z; cases z
    rcases off e1 with z1 | ⟨z1, rfl⟩
    · rcases off e2 with z2 | ⟨z2, rfl⟩
      · exact h.inj n m a x y z1 z2 (ofi (List.getElem?_eq_some_iff.mp z1).1 e3) (ofi (List.getElem?_eq_some_iff.mp z2).1 e4) s1 s2
      · exact (low z1 e3 s1).elim
    · rcases off e2 with z2 | ⟨z2, _⟩
      · exact (low z2 e4 s2).elim
      · rw [z1, z2]
/-- a list is written -/
theorem Rel.write (h : Rel K r ih H) {n : Nat} {a : Addr} {xs xs' : List IV} {ys : List V} (e1 : r[n]? = some a) (e2 : ih[n]? = some (.lst xs)) (q : Rs r xs' ys) :
    Rel K r (ih.set n (.lst xs')) (upd H a (.lst ys)) := by
  have hn := (List.getElem?_eq_some_iff.mp e2).1
  obtain ⟨zs, hz, _⟩ := h.get n a _ e1 e2
  refine ⟨by rw [List.length_set]; exact h.len, fun m b x g1 g2 => ?_, fun m l b x y g1 g2 g3 g4 s1 s2 => ?_⟩
  · by_cases hm : n = m
    · subst hm
      rw [List.getElem?_set_self hn] at g2
      cases g2
      rw [e1] at g1
      cases g1
      exact ⟨ys, upd_same, q⟩
    · rw [List.getElem?_set_ne hm] at g2
      have w := h.get m b x g1 g2
      by_cases hb : b = a
      · subst hb
        refine w.heap ?_ fun o' u' z => by rw [hz] at z; cases z
        cases hs : still x with
        | true => exact .inl rfl
        | false => exact absurd (h.inj n m b _ _ e1 g1 e2 g2 rfl hs) hm
      · exact w.heap (.inr (upd_ne hb)) fun o' u' z => by rw [upd_ne hb]; exact z
  · have back : ∀ {m : Nat} {x : MO}, (ih.set n (.lst xs'))[m]? = some x → still x = false → ∃ x', ih[m]? = some x' ∧ still x' = false := fun {m x} g s => by
      by_cases hm : n = m
      · subst hm
        exact ⟨_, e2, rfl⟩
      · rw [List.getElem?_set_ne hm] at g
        exact ⟨x, g, s⟩
    obtain ⟨x', z1, z2⟩ := back g3 s1
    obtain ⟨y', z3, z4⟩ := back g4 s2
    exact h.inj m l b _ _ g1 g2 z1 z3 z2 z4
end
end L3
/-! L3b: mirrors as readings; expressions. -/
namespace L3
open PySem L2

/-! ### readings made of mirrors -/
/-- what is wanted of an expression's result -/
def PGen {α β : Type} (rel : List Addr → α → β → Prop) (K : PySem.W.Frag) (W : WX) (σ : St) (r : List Addr) (res : Res α) (Q : β → Hp → Prop) : Prop := match res with
  | .ok v ih => ∀ r' H u, r <+: r' → Rel K r' ih H → rel r' v u → Q u H
  | .exc c ih => ∀ r' H, r <+: r' → Rel K r' ih H → W (.ref c) none σ H
  | .stuck => False
def tG {α β : Type} (rel : List Addr → α → β → Prop) (K : PySem.W.Frag) (W : WX) (m : Env → IH → Res α) : St → Hp → (β → Hp → Prop) → Prop := fun σ H Q =>
  ∃ r ih env, Rel K r ih H ∧ REnv r env σ ∧ PGen rel K W σ r (m env ih) Q
abbrev Bq (_ : List Addr) (a b : Bool) : Prop := b = a
/-- an optional int of a slice -/
abbrev Oq (_ : List Addr) (a b : Option Int) : Prop := b = a
abbrev tM (K : PySem.W.Frag) (W : WX) (m : Env → IH → Res IV) : TE := tG R K W m
abbrev tMT (K : PySem.W.Frag) (W : WX) (m : Env → IH → Res Bool) : TT := tG Bq K W m
abbrev tMA (K : PySem.W.Frag) (W : WX) (m : Env → IH → Res (List IV)) : TA := tG Rs K W m
def PStm (K : PySem.W.Frag) (W : WX) (r : List Addr) (res : RS) (D : Ends) : Prop := match res with
  | .ok (.next env) ih => ∀ r' H σ, r <+: r' → Rel K r' ih H → REnv r' env σ → D.nx σ H
  | .ok (.brk env) ih => ∀ r' H σ, r <+: r' → Rel K r' ih H → REnv r' env σ → D.bk σ H
  | .ok (.cont env) ih => ∀ r' H σ, r <+: r' → Rel K r' ih H → REnv r' env σ → D.ct σ H
  | .ok (.ret v) ih => ∀ r' H u, r <+: r' → Rel K r' ih H → R r' v u → D.rt u H
  | .exc c env ih => ∀ r' H σ, r <+: r' → Rel K r' ih H → REnv r' env σ → W (.ref c) none σ H
  | .stuck => False
def tMS (K : PySem.W.Frag) (W : WX) (m : Env → IH → RS) : TS := fun D σ H => ∃ r ih env, Rel K r ih H ∧ REnv r env σ ∧ PStm K W r (m env ih) D

theorem pre_refl (r : List Addr) : r <+: r := ⟨[], List.append_nil r⟩
theorem pre_trans {a b c : List Addr} (h : a <+: b) (k : b <+: c) : a <+: c := by
  obtain ⟨x, rfl⟩ := h
  obtain ⟨y, rfl⟩ := k
  exact ⟨x ++ y, (List.append_assoc _ _ _).symm⟩
section
variable {K : PySem.W.Frag} {W : WX} {σ : St} {H : Hp} {r r' : List Addr} {ih ih' : IH} {env : Env}
theorem PGen.mono {α β : Type} {rel : List Addr → α → β → Prop} {res : Res α} {Q : β → Hp → Prop} (p : r <+: r') (h : PGen rel K W σ r res Q) : PGen rel K W σ r' res Q := by
  cases res with
  | ok v ih => exact fun r2 H u p2 a b => h r2 H u (pre_trans p p2) a b
  | exc c ih => exact fun r2 H p2 a => h r2 H (pre_trans p p2) a
  | stuck => exact h
theorem PStm.mono {res : RS} {D : Ends} (p : r <+: r') (h : PStm K W r res D) : PStm K W r' res D := by
  cases res with
  | ok f ih =>
    cases f with
    | next e => exact fun r2 H u p2 a b => h r2 H u (pre_trans p p2) a b
    | brk e => exact fun r2 H u p2 a b => h r2 H u (pre_trans p p2) a b
    | cont e => exact fun r2 H u p2 a b => h r2 H u (pre_trans p p2) a b
    | ret e => exact fun r2 H u p2 a b => h r2 H u (pre_trans p p2) a b
  | exc c e ih => exact fun r2 H u p2 a b => h r2 H u (pre_trans p p2) a b
  | stuck => exact h
/-- what is known behind a part -/
def Got {α β : Type} (rel : List Addr → α → β → Prop) (K : PySem.W.Frag) (r : List Addr) (P : List Addr → IH → α → Prop) (u : β) (H : Hp) : Prop := ∃ r1 ih1 v, r <+: r1 ∧ Rel K r1 ih1 H ∧ rel r1 v u ∧ P r1 ih1 v
/-- the first part of a bind -/
theorem tG_bind {α β γ δ : Type} {rel1 : List Addr → α → β → Prop} {rel2 : List Addr → γ → δ → Prop} {m : Env → IH → Res α} {k : α → IH → Res γ} {Q : δ → Hp → Prop} (hr : Rel K r ih H) (he : REnv r env σ)
    (h : PGen rel2 K W σ r ((m env ih).bind k) Q) : tG rel1 K W m σ H (Got rel1 K r fun r1 ih1 v => PGen rel2 K W σ r1 (k v ih1) Q) := by
  refine ⟨r, ih, env, hr, he, ?_⟩
  cases e : m env ih with
  | ok v ih1 =>
    rw [e] at h
    exact fun r1 H1 u p a b => ⟨r1, ih1, v, p, a, b, PGen.mono p h⟩
  | exc c ih1 =>
    rw [e] at h
    exact fun r1 H1 p a => h r1 H1 p a
  | stuck =>
    rw [e] at h
    exact h
theorem tG_stm {α β : Type} {rel1 : List Addr → α → β → Prop} {m : Env → IH → Res α} {k : α → IH → RS} {D : Ends} (hr : Rel K r ih H) (he : REnv r env σ)
    (h : PStm K W r ((m env ih).stm env k) D) : tG rel1 K W m σ H (Got rel1 K r fun r1 ih1 v => PStm K W r1 (k v ih1) D) := by
  refine ⟨r, ih, env, hr, he, ?_⟩
  cases e : m env ih with
  | ok v ih1 =>
    rw [e] at h
    exact fun r1 H1 u p a b => ⟨r1, ih1, v, p, a, b, PStm.mono p h⟩
  | exc c ih1 =>
    rw [e] at h
    exact fun r1 H1 p a => h r1 H1 σ p a (he.mono p)
  | stuck =>
    rw [e] at h
    exact h
theorem tG_end {α β : Type} {rel : List Addr → α → β → Prop} {v : α} {u : β} {Q : β → Hp → Prop} (h : PGen rel K W σ r (.ok v ih) Q) (hr : Rel K r ih H) (q : rel r v u) : Q u H := h r H u (pre_refl r) hr q
end
theorem tG.imp {α β : Type} {rel : List Addr → α → β → Prop} {K : PySem.W.Frag} {W : WX} {m : Env → IH → Res α} {σ : St} {H : Hp} {Q Q' : β → Hp → Prop} (h : tG rel K W m σ H Q) (w : ∀ u H', Q u H' → Q' u H') : tG rel K W m σ H Q' := by
  obtain ⟨r, ih, env, h1, h2, h3⟩ := h
  refine ⟨r, ih, env, h1, h2, ?_⟩
  cases e : m env ih with
  | ok v ih1 => rw [e] at h3; exact fun r' H' u p a b => w _ _ (h3 r' H' u p a b)
  | exc c ih1 => rw [e] at h3; exact h3
  | stuck => rw [e] at h3; exact h3
/-- a reading, weaker -/
theorem PE.of {X : Cx} {e : Expr} {t t' : TE} (h : PE X e t) (w : ∀ σ H Q, t' σ H Q → t σ H Q) : PE X e t' := ⟨fun pins s σ H Q I q => h.run pins s σ H Q I (w σ H Q q)⟩
theorem PT.of {X : Cx} {e : Expr} {t t' : TT} (h : PT X e t) (w : ∀ σ H Q, t' σ H Q → t σ H Q) : PT X e t' := ⟨fun pins s σ H Q I q => h.run pins s σ H Q I (w σ H Q q)⟩
theorem PW.of {X : Cx} {e : Expr} {t t' : TT} (h : PW X e t) (w : ∀ σ H Q, t' σ H Q → t σ H Q) : PW X e t' := ⟨fun wh pins s σ H Q I q => h.run wh pins s σ H Q I (w σ H Q q)⟩
theorem PA.of {X : Cx} {e : List Expr} {t t' : TA} (h : PA X e t) (w : ∀ σ H Q, t' σ H Q → t σ H Q) : PA X e t' := ⟨fun pos pins s σ H Q I q => h.run pos pins s σ H Q I (w σ H Q q)⟩
theorem PS.of {X : Cx} {e : Stmt} {t t' : TS} (h : PS X e t) (w : ∀ D σ H, t' D σ H → t D σ H) : PS X e t' := ⟨fun pins s σ H D I q => h.run pins s σ H D I (w D σ H q)⟩
theorem PSs.of {X : Cx} {e : List Stmt} {t t' : TS} (h : PSs X e t) (w : ∀ D σ H, t' D σ H → t D σ H) : PSs X e t' := ⟨fun pins s σ H D I q => h.run pins s σ H D I (w D σ H q)⟩

/-! ### mirrors of expressions -/
def m_var (i : Nat) (env : Env) (ih : IH) : Res IV := match env[i]? with
  | some (some v) => .ok v ih
  | _ => .stuck
def m_c (v : IV) (_ : Env) (ih : IH) : Res IV := .ok v ih
def m_op (f : IV → IV → IH → Res IV) (ma mb : Env → IH → Res IV) (env : Env) (ih : IH) : Res IV := (ma env ih).bind fun x ih1 => (mb env ih1).bind fun y ih2 => f x y ih2
def m_un (f : IV → IH → Res IV) (ma : Env → IH → Res IV) (env : Env) (ih : IH) : Res IV := (ma env ih).bind f
def m_nil (_ : Env) (ih : IH) : Res (List IV) := .ok [] ih
def m_cons (ma : Env → IH → Res IV) (mr : Env → IH → Res (List IV)) (env : Env) (ih : IH) : Res (List IV) := (ma env ih).bind fun x ih1 => (mr env ih1).bind fun xs ih2 => .ok (x :: xs) ih2
def m_if (mt : Env → IH → Res Bool) (ma mb : Env → IH → Res IV) (env : Env) (ih : IH) : Res IV := (mt env ih).bind fun b ih1 => if b = true then ma env ih1 else mb env ih1
def m_and (ma mb : Env → IH → Res Bool) (env : Env) (ih : IH) : Res Bool := (ma env ih).bind fun b ih1 => if b = true then mb env ih1 else .ok false ih1
def m_or (ma mb : Env → IH → Res Bool) (env : Env) (ih : IH) : Res Bool := (ma env ih).bind fun b ih1 => if b = true then .ok true ih1 else mb env ih1
def m_not (ma : Env → IH → Res Bool) (env : Env) (ih : IH) : Res Bool := (ma env ih).bind fun b ih1 => .ok (!b) ih1
def m_tb (ma : Env → IH → Res IV) (env : Env) (ih : IH) : Res Bool := (ma env ih).bind fun v ih1 => match v with
  | .bl b => .ok b ih1
  | _ => .stuck
def m_andV (ma mb : Env → IH → Res IV) (env : Env) (ih : IH) : Res IV := (ma env ih).bind fun v ih1 => match v with
  | .bl b => if b = true then mb env ih1 else .ok (.bl false) ih1
  | _ => .stuck
def m_orV (ma mb : Env → IH → Res IV) (env : Env) (ih : IH) : Res IV := (ma env ih).bind fun v ih1 => match v with
  | .bl b => if b = true then .ok (.bl true) ih1 else mb env ih1
  | _ => .stuck
def m_notV (ma : Env → IH → Res IV) (env : Env) (ih : IH) : Res IV := (ma env ih).bind fun v ih1 => match v with
  | .bl b => .ok (.bl (!b)) ih1
  | _ => .stuck
/-- a call of values -/
def m_app (f : List IV → IH → Res IV) (ma : Env → IH → Res (List IV)) (env : Env) (ih : IH) : Res IV := (ma env ih).bind f

/-- a two-place rule follows its mirror -/
def Snd2 (K : PySem.W.Frag) (W : WX) (rr : R2) (f : IV → IV → IH → Res IV) : Prop := ∀ (r : List Addr) (ih : IH) (H : Hp) (x y : IV) (u w : V) (σ : St) (Q : VK), Rel K r ih H → R r x u → R r y w → PGen R K W σ r (f x y ih) Q → rr u w H Q
def Snd1 (K : PySem.W.Frag) (W : WX) (rr : V → Hp → VK → Prop) (f : IV → IH → Res IV) : Prop := ∀ (r : List Addr) (ih : IH) (H : Hp) (x : IV) (u : V) (σ : St) (Q : VK), Rel K r ih H → R r x u → PGen R K W σ r (f x ih) Q → rr u H Q
def SndC (K : PySem.W.Frag) (W : WX) (rr : List V → Hp → VK → Prop) (f : List IV → IH → Res IV) : Prop := ∀ (r : List Addr) (ih : IH) (H : Hp) (xs : List IV) (us : List V) (σ : St) (Q : VK), Rel K r ih H → Rs r xs us → PGen R K W σ r (f xs ih) Q → rr us H Q

section
variable {X : Cx} {W : WX} {a b c : Expr} {ma mb mc : Env → IH → Res IV} {na nb : Env → IH → Res Bool} {pos : Pos}
theorem lm_var (i : Nat) {x : Str} (hN : X.N[i]? = some x := by rfl) (hv : Vis X.env.scope x := by first | exact Or.inl rfl | exact Or.inr (Or.inl rfl) | exact Or.inr (Or.inr rfl)) (hd : (x == ("__debug__" : Str)) = false := by decide)
    (hcd : (x == ("__classdict__" : Str)) = false := by decide) : PE X (.Name x pos) (tM X.K W (m_var i)) :=
  PE.of (pe_var hN hv hd hcd) fun σ H Q ⟨r, ih, env, hr, he, q⟩ => by
    unfold m_var at q
    split at q
    · rename_i v e
      obtain ⟨u, h1, h2⟩ := he.2 i v e
      exact ⟨u, h1, tG_end q hr h2⟩
    · exact q.elim
theorem lm_c {e : Expr} {w : V} (v : IV) (h : PE X e (tC w)) (hv : ∀ r, R r v w := by intro _; rfl) : PE X e (tM X.K W (m_c v)) :=
  PE.of h fun σ H Q ⟨r, ih, env, hr, he, q⟩ => tG_end q hr (hv r)
theorem lm_op {op : Operator} {rr : R2} {f : IV → IV → IH → Res IV} (ho : OpR X (binaryOp op) rr) (hf : Snd2 X.K W rr f) (ha : PE X a (tM X.K W ma)) (hb : PE X b (tM X.K W mb)) : PE X (.BinOp a op b pos) (tM X.K W (m_op f ma mb)) :=
  PE.of (pe_op ho ha hb) fun σ H Q ⟨r, ih, env, hr, he, q⟩ => tG.imp (tG_bind hr he q) fun u H1 ⟨r1, ih1, v, p, hr1, hv, q1⟩ =>
    tG.imp (tG_bind hr1 (he.mono p) q1) fun w H2 ⟨r2, ih2, y, p2, hr2, hy, q2⟩ => hf _ _ _ _ _ _ _ _ _ hr2 (hv.mono p2) hy q2
theorem lm_un {op : UnaryOp} {rr : V → Hp → VK → Prop} {f : IV → IH → Res IV} (ho : UnR X (unaryOp op) rr) (hf : Snd1 X.K W rr f) (ha : PE X a (tM X.K W ma)) : PE X (.UnaryOp op a pos) (tM X.K W (m_un f ma)) :=
  PE.of (pe_un ho ha) fun σ H Q ⟨r, ih, env, hr, he, q⟩ => tG.imp (tG_bind hr he q) fun u H1 ⟨r1, ih1, v, p, hr1, hv, q1⟩ => hf _ _ _ _ _ _ _ hr1 hv q1
theorem lm_ix {rr : R2} {f : IV → IV → IH → Res IV} (ho : IxR X rr) (hf : Snd2 X.K W rr f) (ha : PE X a (tM X.K W ma)) (hb : PE X b (tM X.K W mb)) (hs : PlainIx b := by exact fun _ _ => rfl) : PE X (.Subscript a b pos) (tM X.K W (m_op f ma mb)) :=
  PE.of (pe_ix ho ha hb hs) fun σ H Q ⟨r, ih, env, hr, he, q⟩ => tG.imp (tG_bind hr he q) fun u H1 ⟨r1, ih1, v, p, hr1, hv, q1⟩ =>
    tG.imp (tG_bind hr1 (he.mono p) q1) fun w H2 ⟨r2, ih2, y, p2, hr2, hy, q2⟩ => hf _ _ _ _ _ _ _ _ _ hr2 (hv.mono p2) hy q2
theorem lm_cmp {op : CmpOp} {rr : R2} {f : IV → IV → IH → Res IV} (ho : OpR X (compareOp op) rr) (hf : Snd2 X.K W rr f) (ha : PE X a (tM X.K W ma)) (hb : PE X b (tM X.K W mb)) (hm : behindInMarks op b = false := by first | exact nomark _ | rfl) : PE X (.Compare a [op] [b] pos) (tM X.K W (m_op f ma mb)) :=
  PE.of (pe_cmpR ho ha hb hm) fun σ H Q ⟨r, ih, env, hr, he, q⟩ => tG.imp (tG_bind hr he q) fun u H1 ⟨r1, ih1, v, p, hr1, hv, q1⟩ =>
    tG.imp (tG_bind hr1 (he.mono p) q1) fun w H2 ⟨r2, ih2, y, p2, hr2, hy, q2⟩ => hf _ _ _ _ _ _ _ _ _ hr2 (hv.mono p2) hy q2
/-- a value's truth that is a bool -/
theorem tb_core {m : Env → IH → Res IV} {σ : St} {H : Hp} {Q : Bool → Hp → Prop} (h : tMT X.K W (m_tb m) σ H Q) : tM X.K W m σ H fun x H1 => ∃ k, x = .bl k ∧ Q k H1 := by
  obtain ⟨r, ih, env, hr, he, q⟩ := h
  refine tG.imp (tG_bind hr he q) fun u H1 ⟨r1, ih1, v, p, hr1, hv, q1⟩ => ?_
  cases v with
  | bl b =>
    obtain rfl : u = .bl b := hv
    exact ⟨b, rfl, tG_end q1 hr1 rfl⟩
  | _ => exact q1.elim
/-- a test that is a comparison -/
theorem lt_cmp {op : CmpOp} {rr : R2} {f : IV → IV → IH → Res IV} (ho : OpR X (compareOp op) rr) (hf : Snd2 X.K W rr f) (ha : PE X a (tM X.K W ma)) (hb : PE X b (tM X.K W mb)) (hm : behindInMarks op b = false := by first | exact nomark _ | rfl) : PT X (.Compare a [op] [b] pos) (tMT X.K W (m_tb (m_op f ma mb))) :=
  PT.of (pt_cmpR ho ha hb hm) fun σ H Q h => by
    obtain ⟨r, ih, env, hr, he, q⟩ := tb_core h
    exact tG.imp (tG_bind hr he q) fun u H1 ⟨r1, ih1, v, p, hr1, hv, q1⟩ =>
      tG.imp (tG_bind hr1 (he.mono p) q1) fun w H2 ⟨r2, ih2, y, p2, hr2, hy, q2⟩ => hf _ _ _ _ _ _ _ _ _ hr2 (hv.mono p2) hy q2
/-- any expression that gives a bool, as a test -/
theorem lt_val {e : Expr} {m : Env → IH → Res IV} (h : PE X e (tM X.K W m)) (he : ∀ whole, isTrue e X.env whole = (do let v ← whole; standAt e.pos; holding [v] (truthy v)) := by intro _; rfl) : PT X e (tMT X.K W (m_tb m)) :=
  PT.of (pt_val h he) fun σ H Q h => tb_core h
theorem lt_not (h : PT X a (tMT X.K W na)) : PT X (.UnaryOp .Not a pos) (tMT X.K W (m_not na)) :=
  PT.of (pt_not h) fun σ H Q ⟨r, ih, env, hr, he, q⟩ => tG.imp (tG_bind hr he q) fun u H1 ⟨r1, ih1, v, p, hr1, hv, q1⟩ => tG_end q1 hr1 (by rw [show u = v from hv])
theorem lw_and1 (h : PT X a (tMT X.K W na)) : PW X (.BoolOp .And [a] pos) (tMT X.K W na) := pw_and1 h
theorem lw_or1 (h : PT X a (tMT X.K W na)) : PW X (.BoolOp .Or [a] pos) (tMT X.K W na) := pw_or1 h
theorem lw_and {rest : List Expr} (ha : PT X a (tMT X.K W na)) (hb : PW X (.BoolOp .And (b :: rest) pos) (tMT X.K W nb)) : PW X (.BoolOp .And (a :: b :: rest) pos) (tMT X.K W (m_and na nb)) :=
  PW.of (pw_and ha hb) fun σ H Q ⟨r, ih, env, hr, he, q⟩ => tG.imp (tG_bind hr he q) fun u H1 ⟨r1, ih1, v, p, hr1, hv, q1⟩ => by
    obtain rfl : u = v := hv
    cases u with
    | true => exact ⟨r1, ih1, env, hr1, he.mono p, q1⟩
    | false => exact tG_end q1 hr1 rfl
theorem lw_or {rest : List Expr} (ha : PT X a (tMT X.K W na)) (hb : PW X (.BoolOp .Or (b :: rest) pos) (tMT X.K W nb)) : PW X (.BoolOp .Or (a :: b :: rest) pos) (tMT X.K W (m_or na nb)) :=
  PW.of (pw_or ha hb) fun σ H Q ⟨r, ih, env, hr, he, q⟩ => tG.imp (tG_bind hr he q) fun u H1 ⟨r1, ih1, v, p, hr1, hv, q1⟩ => by
    obtain rfl : u = v := hv
    cases u with
    | true => exact tG_end q1 hr1 rfl
    | false => exact ⟨r1, ih1, env, hr1, he.mono p, q1⟩
theorem lm_one {op : BoolOp} (h : PE X a (tM X.K W ma)) : PE X (.BoolOp op [a] pos) (tM X.K W ma) := pe_one h
theorem lm_and {rest : List Expr} (ha : PE X a (tM X.K W ma)) (hb : PE X (.BoolOp .And (b :: rest) pos) (tM X.K W mb)) : PE X (.BoolOp .And (a :: b :: rest) pos) (tM X.K W (m_andV ma mb)) :=
  PE.of (pe_and ha hb) fun σ H Q ⟨r, ih, env, hr, he, q⟩ => tG.imp (tG_bind hr he q) fun u H1 ⟨r1, ih1, v, p, hr1, hv, q1⟩ => by
    cases v with
    | bl k =>
      obtain rfl : u = .bl k := hv
      refine ⟨k, rfl, ?_⟩
      cases k with
      | true => exact ⟨r1, ih1, env, hr1, he.mono p, q1⟩
      | false => exact tG_end q1 hr1 rfl
    | _ => exact q1.elim
theorem lm_or {rest : List Expr} (ha : PE X a (tM X.K W ma)) (hb : PE X (.BoolOp .Or (b :: rest) pos) (tM X.K W mb)) : PE X (.BoolOp .Or (a :: b :: rest) pos) (tM X.K W (m_orV ma mb)) :=
  PE.of (pe_or ha hb) fun σ H Q ⟨r, ih, env, hr, he, q⟩ => tG.imp (tG_bind hr he q) fun u H1 ⟨r1, ih1, v, p, hr1, hv, q1⟩ => by
    cases v with
    | bl k =>
      obtain rfl : u = .bl k := hv
      refine ⟨k, rfl, ?_⟩
      cases k with
      | true => exact tG_end q1 hr1 rfl
      | false => exact ⟨r1, ih1, env, hr1, he.mono p, q1⟩
    | _ => exact q1.elim
theorem lm_not (ha : PE X a (tM X.K W ma)) : PE X (.UnaryOp .Not a pos) (tM X.K W (m_notV ma)) :=
  PE.of (pe_not ha) fun σ H Q ⟨r, ih, env, hr, he, q⟩ => tG.imp (tG_bind hr he q) fun u H1 ⟨r1, ih1, v, p, hr1, hv, q1⟩ => by
    cases v with
    | bl k =>
      obtain rfl : u = .bl k := hv
      exact ⟨k, rfl, tG_end q1 hr1 rfl⟩
    | _ => exact q1.elim
theorem lm_if {t : Expr} {nt : Env → IH → Res Bool} (ht : PT X t (tMT X.K W nt)) (ha : PE X a (tM X.K W ma)) (hb : PE X b (tM X.K W mb)) : PE X (.IfExp t a b pos) (tM X.K W (m_if nt ma mb)) :=
  PE.of (pe_ifExp ht ha hb) fun σ H Q ⟨r, ih, env, hr, he, q⟩ => tG.imp (tG_bind hr he q) fun u H1 ⟨r1, ih1, v, p, hr1, hv, q1⟩ => by
    obtain rfl : u = v := hv
    cases u with
    | true => exact ⟨r1, ih1, env, hr1, he.mono p, q1⟩
    | false => exact ⟨r1, ih1, env, hr1, he.mono p, q1⟩
theorem la_nil : PA X [] (tMA X.K W m_nil) := PA.of pa_nil fun σ H Q ⟨r, ih, env, hr, he, q⟩ => tG_end q hr .nil
theorem la_cons {es : List Expr} {mr : Env → IH → Res (List IV)} (ha : PE X a (tM X.K W ma)) (hr : PA X es (tMA X.K W mr)) (hp : starEach (a :: es) X.env = (false, eval a X.env) :: starEach es X.env := by rfl) : PA X (a :: es) (tMA X.K W (m_cons ma mr)) :=
  PA.of (pa_cons ha hr hp) fun σ H Q ⟨r, ih, env, hr, he, q⟩ => tG.imp (tG_bind hr he q) fun u H1 ⟨r1, ih1, v, p, hr1, hv, q1⟩ =>
    tG.imp (tG_bind hr1 (he.mono p) q1) fun w H2 ⟨r2, ih2, y, p2, hr2, hy, q2⟩ => tG_end q2 hr2 (.cons (hv.mono p2) hy)
/-- a built-in function, a built-in type -/
theorem lm_callB {x : Str} {p : Pos} {es : List Expr} {id : String} {rr : List V → Hp → VK → Prop} {f : List IV → IH → Res IV} {m : Env → IH → Res (List IV)} (hc : CallR X (.builtin id) rr) (hf : SndC X.K W rr f) (hg : Gl X x) (hm : X.mg x = none) (hv : bootBuiltins x = some (.builtin id)) (ha : PA X (a :: es) (tMA X.K W m))
    (hn : x ≠ "__name__" := by decide) (hdb : (x == ("__debug__" : Str)) = false := by decide)
    (he : starEach (a :: es) X.env = (false, eval a X.env) :: starEach es X.env := by rfl) (hpl : (backTo pos (starEach es X.env)).any (·.1) = false := by rfl) : PE X (.Call (.Name x p) (a :: es) [] pos) (tM X.K W (m_app f m)) :=
  PE.of (pe_callB hc hg hm hv ha hn hdb he hpl) fun σ H Q ⟨r, ih, env, hr, he, q⟩ => tG.imp (tG_bind hr he q) fun u H1 ⟨r1, ih1, v, p, hr1, hv, q1⟩ => hf _ _ _ _ _ _ _ hr1 hv q1
theorem lm_callTy {x : Str} {p : Pos} {es : List Expr} {T : String} {rr : List V → Hp → VK → Prop} {f : List IV → IH → Res IV} {m : Env → IH → Res (List IV)} (hc : CallR X (.type T) rr) (hf : SndC X.K W rr f) (hg : Gl X x) (hm : X.mg x = none) (hv : bootBuiltins x = some (.type T)) (ha : PA X (a :: es) (tMA X.K W m))
    (hn : x ≠ "__name__" := by decide) (hdb : (x == ("__debug__" : Str)) = false := by decide)
    (he : starEach (a :: es) X.env = (false, eval a X.env) :: starEach es X.env := by rfl) (hpl : (backTo pos (starEach es X.env)).any (·.1) = false := by rfl) : PE X (.Call (.Name x p) (a :: es) [] pos) (tM X.K W (m_app f m)) :=
  PE.of (pe_callTy hc hg hm hv ha hn hdb he hpl) fun σ H Q ⟨r, ih, env, hr, he, q⟩ => tG.imp (tG_bind hr he q) fun u H1 ⟨r1, ih1, v, p, hr1, hv, q1⟩ => hf _ _ _ _ _ _ _ hr1 hv q1
end
end L3
/-! L3c: the mirrors of operations on values, and that the hand layer's rules follow them. -/
namespace L3
open PySem L2

/-! ### reading objects -/
def MO.xs : MO → List IV
  | .lst xs => xs
  | .tup xs => xs
  | .ro xs => xs
  | .rot xs => xs
  | .dct => []
def MO.isL : MO → Bool
  | .lst _ => true
  | .tup _ => false
  | .ro _ => true
  | .rot _ => false
  | .dct => false
def MO.isT : MO → Bool
  | .tup _ => true
  | .rot _ => true
  | _ => false
def MO.isS : MO → Bool
  | .dct => false
  | _ => true
theorem MO.lt {o : MO} (h : o.isL = true) (k : o.isT = true) : False := by
  cases o with
  | lst _ => cases k
  | ro _ => cases k
  | _ => cases h
theorem MO.tf {o : MO} (h : o.isL = false) (k : o = .dct → False) : o.isT = true := by
  cases o with
  | dct => exact (k rfl).elim
  | tup _ => rfl
  | rot _ => rfl
  | _ => cases h
theorem MO.xs0 {o : MO} (h : o.isL = false) (k : o.isT = false) : o.xs = [] := by
  cases o with
  | dct => rfl
  | tup _ => cases k
  | rot _ => cases k
  | _ => cases h
section
variable {K : PySem.W.Frag} {W : WX} {r : List Addr} {ih : IH} {H : Hp} {a : Addr} {o : MO}
theorem RO.l (h : RO K r H a o) (e : o.isL = true) : ∃ ys, SqL K H a ys ∧ Rs r o.xs ys := by
  cases o with
  | lst xs => obtain ⟨ys, h1, h2⟩ := h; exact ⟨ys, .inl (.inl h1), h2⟩
  | ro xs =>
    obtain ⟨ys, h1, h2⟩ := h
    rcases h1 with ⟨o, h1⟩ | h1
    · exact ⟨ys, .inl (.inr ⟨o, h1⟩), h2⟩
    · exact ⟨ys, SqL.ofK h1, h2⟩
  | tup xs => cases e
  | rot xs => cases e
  | dct => cases e
theorem RO.t (h : RO K r H a o) (e : o.isT = true) : ∃ ys, SqT K H a ys ∧ Rs r o.xs ys := by
  cases o with
  | tup xs => obtain ⟨ys, h1, h2⟩ := h; exact ⟨ys, .inl (.inl h1), h2⟩
  | rot xs => obtain ⟨ys, h1, h2⟩ := h; exact ⟨ys, SqT.ofK h1, h2⟩
  | lst xs => cases e
  | ro xs => cases e
  | dct => cases e
theorem Rs.atI {xs : List IV} {ys : List V} {i : Int} {v : IV} (h : Rs r xs ys) (e : atI xs i = some v) : ∃ u, atI ys i = some u ∧ R r v u := by
  unfold L2.atI at e ⊢
  rw [← h.length]
  cases q : ixN xs.length i with
  | none => rw [q] at e; cases e
  | some j =>
    rw [q] at e
    obtain ⟨u, h1, h2⟩ := h.get (i := j) e
    exact ⟨u, h1, h2⟩
theorem R.flat {x : IV} {y : V} (h : R r x y) (f : ∀ n, x ≠ .ref n) : y = x.toV := by
  cases x with
  | ref n => exact absurd rfl (f n)
  | _ => exact h
theorem R.ref {n : Nat} {y : V} (h : R r (.ref n) y) : ∃ a, r[n]? = some a ∧ y = .ref a := h
end

/-! ### ints -/
def f_I (C : Int → Int → Bool) (g : Int → Int → IV) (x y : IV) (ih : IH) : Res IV := match x, y with
  | .int i, .int j => if C i j = true then .ok (g i j) ih else .stuck
  | _, _ => .stuck
def f_I0 (g : Int → Int → IV) (x y : IV) (ih : IH) : Res IV := match x, y with
  | .int i, .int j => .ok (g i j) ih
  | _, _ => .stuck
def f_U (g : Int → IV) (x : IV) (ih : IH) : Res IV := match x with
  | .int i => .ok (g i) ih
  | _ => .stuck
abbrev ibits (i : Int) : Nat := Builtin.Int.intBits i
def cMul (i j : Int) : Bool := decide (ibits i + ibits j ≤ 134217728)
def cShl (i j : Int) : Bool := decide (0 ≤ j) && decide ((ibits i : Int) + j ≤ 134217728)
def cShr (_ j : Int) : Bool := decide (0 ≤ j)
def cDiv (_ j : Int) : Bool := decide (0 < j) && decide (j.natAbs.log2 < 9000)
def cMod (_ j : Int) : Bool := decide (0 < j)
def cPow (i j : Int) : Bool := decide (0 ≤ j) && decide (j ≤ 1000000) && decide (i.natAbs < 18446744073709551616)
section
variable {X : Cx} {K : PySem.W.Frag} {W : WX}
theorem snd_I {C : Int → Int → Bool} {D : Int → Int → Prop} {g : Int → Int → IV} {g' : Int → Int → V} (hC : ∀ i j, C i j = true → D i j) (hg : ∀ r i j, R r (g i j) (g' i j)) : Snd2 K W (rI D g') (f_I C g) := by
  intro r ih H x y u w σ Q hr hx hy q
  cases x with
  | int i =>
    cases y with
    | int j =>
      obtain rfl : u = .int i := hx
      obtain rfl : w = .int j := hy
      show ∃ i' j', _
      refine ⟨i, j, rfl, rfl, ?_⟩
      unfold f_I at q
      dsimp only at q
      split at q
      · rename_i hc
        exact ⟨hC i j hc, tG_end q hr (hg r i j)⟩
      · exact q.elim
    | _ => exact q.elim
  | _ => exact q.elim
theorem snd_I0 {g : Int → Int → IV} {g' : Int → Int → V} (hg : ∀ r i j, R r (g i j) (g' i j)) : Snd2 K W (rI0 g') (f_I0 g) := by
  intro r ih H x y u w σ Q hr hx hy q
  cases x with
  | int i =>
    cases y with
    | int j =>
      obtain rfl : u = .int i := hx
      obtain rfl : w = .int j := hy
      exact ⟨i, j, rfl, rfl, tG_end q hr (hg r i j)⟩
    | _ => exact q.elim
  | _ => exact q.elim
theorem snd_U {g : Int → IV} {g' : Int → V} (hg : ∀ r i, R r (g i) (g' i)) : Snd1 K W (rU g') (f_U g) := by
  intro r ih H x u σ Q hr hx q
  cases x with
  | int i =>
    obtain rfl : u = .int i := hx
    exact ⟨i, rfl, tG_end q hr (hg r i)⟩
  | _ => exact q.elim
def f_mul := f_I cMul fun i j => .int (i * j)
def f_sub := f_I0 fun i j => .int (i - j)
def f_fdiv := f_I cDiv fun i j => .int (i / j)
def f_mod := f_I cMod fun i j => .int (i % j)
def f_shl := f_I cShl fun i j => .int (i * 2 ^ j.toNat)
def f_shr := f_I cShr fun i j => .int (i / 2 ^ j.toNat)
def f_pow := f_I cPow fun i j => .int (i ^ j.toNat)
def f_lt := f_I0 fun i j => .bl (decide (i < j))
def f_le := f_I0 fun i j => .bl (decide (i ≤ j))
def f_gt := f_I0 fun i j => .bl (decide (j < i))
def f_ge := f_I0 fun i j => .bl (decide (j ≤ i))
def f_neg := f_U fun i => .int (-i)
theorem s_mul : Snd2 K W (rI CMulX fun i j => .int (i * j)) f_mul := snd_I (fun i j h => by
  have h1 := of_decide_eq_true h
  unfold ibits at h1
  unfold CMulX
  omega) fun _ _ _ => rfl
theorem s_sub : Snd2 K W (rI0 fun i j => .int (i - j)) f_sub := snd_I0 fun _ _ _ => rfl
theorem s_fdiv : Snd2 K W (rI CDivW fun i j => .int (i / j)) f_fdiv := snd_I (fun i j h => by
  unfold cDiv at h
  rw [Bool.and_eq_true] at h
  exact ⟨of_decide_eq_true h.1, of_decide_eq_true h.2⟩) fun _ _ _ => rfl
theorem s_mod : Snd2 K W (rI (fun _ j => 0 < j) fun i j => .int (i % j)) f_mod := snd_I (fun i j h => of_decide_eq_true h) fun _ _ _ => rfl
theorem s_shl : Snd2 K W (rI CShl fun i j => .int (i * 2 ^ j.toNat)) f_shl := snd_I (fun i j h => by
  unfold cShl at h
  rw [Bool.and_eq_true] at h
  exact ⟨of_decide_eq_true h.1, of_decide_eq_true h.2⟩) fun _ _ _ => rfl
theorem s_shr : Snd2 K W (rI (fun _ j => 0 ≤ j) fun i j => .int (i / 2 ^ j.toNat)) f_shr := snd_I (fun i j h => of_decide_eq_true h) fun _ _ _ => rfl
theorem s_pow : Snd2 K W (rI CPow fun i j => .int (i ^ j.toNat)) f_pow := snd_I (fun i j h => by
  unfold cPow at h
  rw [Bool.and_eq_true, Bool.and_eq_true] at h
  exact ⟨of_decide_eq_true h.1.1, of_decide_eq_true h.1.2, of_decide_eq_true h.2⟩) fun _ _ _ => rfl
theorem s_lt : Snd2 K W (rI0 fun i j => .bl (decide (i < j))) f_lt := snd_I0 fun _ _ _ => rfl
theorem s_le : Snd2 K W (rI0 fun i j => .bl (decide (i ≤ j))) f_le := snd_I0 fun _ _ _ => rfl
theorem s_gt : Snd2 K W (rI0 fun i j => .bl (decide (j < i))) f_gt := snd_I0 fun _ _ _ => rfl
theorem s_ge : Snd2 K W (rI0 fun i j => .bl (decide (j ≤ i))) f_ge := snd_I0 fun _ _ _ => rfl
theorem s_neg : Snd1 K W (rU fun i => .int (-i)) f_neg := snd_U fun _ _ => rfl

/-! ### + : ints, lists, tuples, texts -/
def f_add (x y : IV) (ih : IH) : Res IV := match x, y with
  | .int i, .int j => .ok (.int (i + j)) ih
  | .str a, .str b => if a.length + b.length ≤ 1000000 then .ok (.str (a ++ b)) ih else .stuck
  | .ref n, .ref m => match ih[n]?, ih[m]? with
    | some (.lst xs), some (.lst ys) => if xs.length + ys.length ≤ 100000 then .ok (.ref ih.length) (ih ++ [.lst (xs ++ ys)]) else .stuck
    | some (.tup xs), some (.tup ys) => if xs ≠ [] ∧ ys ≠ [] ∧ xs.length + ys.length ≤ 100000 then .ok (.ref ih.length) (ih ++ [.tup (xs ++ ys)]) else .stuck
    | _, _ => .stuck
  | _, _ => .stuck
theorem pre_one {r : List Addr} {p : Addr} : r <+: r ++ [p] := ⟨[p], rfl⟩
theorem R.newest {r : List Addr} {p : Addr} {n : Nat} (h : r.length = n) : R (r ++ [p]) (.ref n) (.ref p) := ⟨p, by rw [← h, List.getElem?_append_right (Nat.le_refl _), Nat.sub_self]; rfl, rfl⟩
/-- a new list, a new tuple is the result -/
theorem end_lst {r : List Addr} {ih : IH} {H : Hp} {σ : St} {Q : VK} {xs : List IV} {ys : List V} (q : PGen R K W σ r (.ok (.ref ih.length) (ih ++ [.lst xs])) Q) (hr : Rel K r ih H) (h : Rs r xs ys) {p : Addr} (hp : H p = none) : Q (.ref p) (upd H p (.lst ys)) :=
  q _ _ _ pre_one (hr.new hp rfl fun H' e => ⟨ys, e, h⟩) (R.newest hr.len)
theorem end_tup {r : List Addr} {ih : IH} {H : Hp} {σ : St} {Q : VK} {xs : List IV} {ys : List V} (q : PGen R K W σ r (.ok (.ref ih.length) (ih ++ [.tup xs])) Q) (hr : Rel K r ih H) (h : Rs r xs ys) {p : Addr} (hp : H p = none) : Q (.ref p) (upd H p (.tup ys)) :=
  q _ _ _ pre_one (hr.new hp rfl fun H' e => ⟨ys, e, h⟩) (R.newest hr.len)
theorem line5 {n : Nat} (h : n ≤ 100000) : n ≤ sizeLine := Nat.le_trans h (by decide)
theorem line6 {n : Nat} (h : n ≤ 1000000) : n ≤ sizeLine := Nat.le_trans h (by decide)
theorem line5l {n : Nat} (h : n < 100000) : n < sizeLine := Nat.lt_of_lt_of_le h (by decide)
abbrev rAddA (K : PySem.W.Frag) : R2 := fun x y H Q => (∃ i j, x = .int i ∧ y = .int j ∧ Q (.int (i + j)) H) ∨ ((∃ i j, x = .str i ∧ y = .str j ∧ i.length + j.length ≤ sizeLine ∧ Q (.str (i ++ j)) H) ∨ (rCat x y H Q ∨ rCatT K x y H Q))
theorem op_addA : OpR X (binaryOp .Add) (rAddA X.K) := op_add.or (op_add_str.or (op_cat.or op_catT))
theorem Rs.ne_nil {r : List Addr} {xs : List IV} {ys : List V} (h : Rs r xs ys) (n : xs ≠ []) : ys ≠ [] := fun e => by
  subst e
  have := h.length
  exact n (List.length_eq_zero_iff.mp this)
theorem s_add : Snd2 K W (rAddA K) f_add := by
  intro r ih H x y u w σ Q hr hx hy q
  unfold f_add at q
  split at q
  · rename_i i j
    obtain rfl : u = .int i := hx
    obtain rfl : w = .int j := hy
    exact .inl ⟨i, j, rfl, rfl, tG_end q hr rfl⟩
  · rename_i i j
    obtain rfl : u = .str i := hx
    obtain rfl : w = .str j := hy
    split at q
    · rename_i hl
      exact .inr (.inl ⟨i, j, rfl, rfl, line6 hl, tG_end q hr rfl⟩)
    · exact q.elim
  · rename_i n m
    obtain ⟨a, ea, rfl⟩ := hx.ref
    obtain ⟨b, eb, rfl⟩ := hy.ref
    split at q
    · rename_i xs ys e1 e2
      obtain ⟨xs', h1, h2⟩ := hr.get n a _ ea e1
      obtain ⟨ys', h3, h4⟩ := hr.get m b _ eb e2
      split at q
      · rename_i hl
        refine .inr (.inr (.inl ⟨a, b, xs', ys', rfl, rfl, h1, h3, ?_, fun p hp => end_lst q hr (h2.append h4) hp⟩))
        rw [← h2.length, ← h4.length]
        exact line5 hl
      · exact q.elim
    · rename_i xs ys e1 e2
      obtain ⟨xs', h1, h2⟩ := hr.get n a _ ea e1
      obtain ⟨ys', h3, h4⟩ := hr.get m b _ eb e2
      split at q
      · rename_i hl
        refine .inr (.inr (.inr ⟨a, b, xs', ys', rfl, rfl, SqT.of h1, SqT.of h3, h2.ne_nil hl.1, ?_, fun z => absurd z (h4.ne_nil hl.2.1), fun _ p hp => end_tup q hr (h2.append h4) hp⟩))
        rw [← h2.length, ← h4.length]
        exact line5 hl.2.2
      · exact q.elim
    · exact q.elim
  · exact q.elim

/-! ### list * int -/
def f_mulA (x y : IV) (ih : IH) : Res IV := match x, y with
  | .int i, .int j => if cMul i j = true then .ok (.int (i * j)) ih else .stuck
  | .ref n, .int k => match ih[n]? with
    | some (.lst xs) => if 0 ≤ k ∧ k ≤ 100000 ∧ xs.length * k.toNat ≤ 100000 then .ok (.ref ih.length) (ih ++ [.lst (List.replicate k.toNat xs).flatten]) else .stuck
    | _ => .stuck
  | _, _ => .stuck
theorem Rs.rep {r : List Addr} {xs : List IV} {ys : List V} (h : Rs r xs ys) : ∀ k : Nat, Rs r (List.replicate k xs).flatten (List.replicate k ys).flatten
  | 0 => .nil
  | k + 1 => by
    rw [List.replicate_succ, List.replicate_succ, List.flatten_cons, List.flatten_cons]
    exact h.append (Rs.rep h k)
abbrev rMulA : R2 := fun x y H Q => rI CMulX (fun i j => .int (i * j)) x y H Q ∨ rRep x y H Q
theorem op_mulA : OpR X (binaryOp .Mult) rMulA := op_mulX.or op_rep
theorem s_mulA : Snd2 K W rMulA f_mulA := by
  intro r ih H x y u w σ Q hr hx hy q
  unfold f_mulA at q
  split at q
  · rename_i i j
    refine .inl (s_mul (W := W) r ih H (.int i) (.int j) u w σ Q hr hx hy ?_)
    exact q
  · rename_i n k
    obtain ⟨a, ea, rfl⟩ := hx.ref
    obtain rfl : w = .int k := hy
    split at q
    · rename_i xs e1
      obtain ⟨xs', h1, h2⟩ := hr.get n a _ ea e1
      split at q
      · rename_i hl
        refine .inr ⟨a, k, xs', rfl, rfl, h1, by omega, by omega, ?_, fun p hp => end_lst q hr (h2.rep _) hp⟩
        rw [← h2.length]
        exact line5 hl.2.2
      · exact q.elim
    · exact q.elim
  · exact q.elim

/-! ### subscripts -/
def f_ix (x y : IV) (ih : IH) : Res IV := match x, y with
  | .ref n, .int i => match ih[n]? with
    | some o => match atI o.xs i with
      | some v => .ok v ih
      | none => .stuck
    | none => .stuck
  | .str z, .int i => if z.length ≤ 1000000 then (match atI z.cps.toList i with
      | some c => .ok (.str ⟨#[c]⟩) ih
      | none => .stuck) else .stuck
  | _, _ => .stuck
theorem s_ix : Snd2 K W (rIx K) f_ix := by
  intro r ih H x y u w σ Q hr hx hy q
  unfold f_ix at q
  split at q
  · rename_i n i
    obtain ⟨a, ea, rfl⟩ := hx.ref
    obtain rfl : w = .int i := hy
    split at q
    · rename_i o e1
      have ho := hr.get n a _ ea e1
      split at q
      · rename_i v e2
        cases hl : o.isL with
        | true =>
          obtain ⟨ys, h1, h2⟩ := ho.l hl
          obtain ⟨z, h3, h4⟩ := h2.atI e2
          exact .inl ⟨a, ys, i, z, rfl, rfl, h1, h3, tG_end q hr h4⟩
        | false =>
          cases ht : o.isT with
          | true =>
            obtain ⟨ys, h1, h2⟩ := ho.t ht
            obtain ⟨z, h3, h4⟩ := h2.atI e2
            exact .inr (.inl ⟨a, ys, i, z, rfl, rfl, h1, h3, tG_end q hr h4⟩)
          | false =>
            rw [MO.xs0 hl ht] at e2
            simp [L2.atI] at e2
      · exact q.elim
    · exact q.elim
  · rename_i z i
    obtain rfl : u = .str z := hx
    obtain rfl : w = .int i := hy
    split at q
    · rename_i hl
      split at q
      · rename_i c e
        exact .inr (.inr ⟨z, i, c, rfl, rfl, line6 hl, e, tG_end q hr rfl⟩)
      · exact q.elim
    · exact q.elim
  · exact q.elim
end

/-! ### == and != -/
mutual
/-- the value is this datum -/
inductive Is (ih : IH) : IV → PyData → Prop
  | non : Is ih .non .none
  | bl (b : Bool) : Is ih (.bl b) (.bool b)
  | int (i : Int) : Is ih (.int i) (.int i)
  | str (x : Str) : Is ih (.str x) (.str x)
  | lst {n : Nat} {o : MO} {ds : List PyData} : ih[n]? = some o → o.isL = true → IsAll ih o.xs ds → Is ih (.ref n) (.list ds)
  | tup {n : Nat} {o : MO} {ds : List PyData} : ih[n]? = some o → o.isT = true → IsAll ih o.xs ds → Is ih (.ref n) (.tuple ds)
inductive IsAll (ih : IH) : List IV → List PyData → Prop
  | nil : IsAll ih [] []
  | cons {v : IV} {vs : List IV} {d : PyData} {ds : List PyData} : Is ih v d → IsAll ih vs ds → IsAll ih (v :: vs) (d :: ds)
end
mutual
theorem Is.uniq {ih : IH} : ∀ (d e : PyData) (v : IV), Is ih v d → Is ih v e → d = e
  | .none, _, _, h, k => by cases h; cases k; rfl
  | .bool _, _, _, h, k => by cases h; cases k; rfl
  | .int _, _, _, h, k => by cases h; cases k; rfl
  | .str _, _, _, h, k => by cases h; cases k; rfl
  | .list ds, _, _, h, k => by
    cases h with
    | lst h1 h2 h3 =>
      cases k with
      | lst k1 k2 k3 =>
        rw [h1] at k1
        cases k1
        rw [Is.uniqAll ds _ _ h3 k3]
      | tup k1 k2 k3 =>
        rw [h1] at k1
        cases k1
        exact (MO.lt h2 k2).elim
  | .tuple ds, _, _, h, k => by
    cases h with
    | tup h1 h2 h3 =>
      cases k with
      | tup k1 k2 k3 =>
        rw [h1] at k1
        cases k1
        rw [Is.uniqAll ds _ _ h3 k3]
      | lst k1 k2 k3 =>
        rw [h1] at k1
        cases k1
        exact (MO.lt k2 h2).elim
  | .dict _, _, _, h, _ => by cases h
theorem Is.uniqAll {ih : IH} : ∀ (ds es : List PyData) (vs : List IV), IsAll ih vs ds → IsAll ih vs es → ds = es
  | [], _, _, h, k => by cases h; cases k; rfl
  | d :: ds, _, _, h, k => by
    cases h with
    | cons h1 h2 =>
      cases k with
      | cons k1 k2 => rw [Is.uniq d _ _ h1 k1, Is.uniqAll ds _ _ h2 k2]
end
mutual
theorem Is.dp {K : PySem.W.Frag} {r : List Addr} {ih : IH} {H : Hp} (hr : Rel K r ih H) : ∀ (d : PyData) (v : IV) (u : V), Is ih v d → R r v u → Dp K H u d
  | .none, _, u, h, q => by cases h; obtain rfl : u = .non := q; exact .non
  | .bool b, _, u, h, q => by cases h; obtain rfl : u = .bl b := q; exact .bl b
  | .int i, _, u, h, q => by cases h; obtain rfl : u = .int i := q; exact .int i
  | .str x, _, u, h, q => by cases h; obtain rfl : u = .str x := q; exact .str x
  | .list ds, _, u, h, q => by
    cases h with
    | lst h1 h2 h3 =>
      obtain ⟨a, ea, rfl⟩ := q.ref
      obtain ⟨ys, h4, h5⟩ := (hr.get _ a _ ea h1).l h2
      exact .lst h4 (Is.dpAll hr ds _ _ h3 h5)
  | .tuple ds, _, u, h, q => by
    cases h with
    | tup h1 h2 h3 =>
      obtain ⟨a, ea, rfl⟩ := q.ref
      obtain ⟨ys, h4, h5⟩ := (hr.get _ a _ ea h1).t h2
      exact .tup h4 (Is.dpAll hr ds _ _ h3 h5)
  | .dict _, _, _, h, _ => by cases h
theorem Is.dpAll {K : PySem.W.Frag} {r : List Addr} {ih : IH} {H : Hp} (hr : Rel K r ih H) : ∀ (ds : List PyData) (vs : List IV) (us : List V), IsAll ih vs ds → Rs r vs us → DpAll K H us ds
  | [], _, _, h, q => by cases h; cases q; exact .nil
  | d :: ds, _, _, h, q => by
    cases h with
    | cons h1 h2 =>
      cases q with
      | cons q1 q2 => exact .cons (Is.dp hr d _ _ h1 q1) (Is.dpAll hr ds _ _ h2 q2)
end
open Classical in
noncomputable def f_eqn (neg : Bool) (x y : IV) (ih : IH) : Res IV :=
  if h : ∃ p : PyData × PyData, Is ih x p.1 ∧ Is ih y p.2 ∧ SeqAt.shaped p.1 = true ∧ SeqAt.shaped p.2 = true then .ok (.bl (if neg = true then !PyData.eqv h.choose.1 h.choose.2 else PyData.eqv h.choose.1 h.choose.2)) ih else .stuck
noncomputable def f_eq := f_eqn false
noncomputable def f_ne := f_eqn true
theorem f_eqn_of {neg : Bool} {x y : IV} {ih : IH} {d e : PyData} (h1 : Is ih x d) (h2 : Is ih y e) (s1 : SeqAt.shaped d = true) (s2 : SeqAt.shaped e = true) : f_eqn neg x y ih = .ok (.bl (if neg = true then !PyData.eqv d e else PyData.eqv d e)) ih := by
  unfold f_eqn
  have h : ∃ p : PyData × PyData, Is ih x p.1 ∧ Is ih y p.2 ∧ SeqAt.shaped p.1 = true ∧ SeqAt.shaped p.2 = true := ⟨(d, e), h1, h2, s1, s2⟩
  rw [dif_pos h]
  have k := h.choose_spec
  rw [Is.uniq _ _ _ k.1 h1, Is.uniq _ _ _ k.2.1 h2]
theorem f_eq_of {x y : IV} {ih : IH} {d e : PyData} (h1 : Is ih x d) (h2 : Is ih y e) (s1 : SeqAt.shaped d = true) (s2 : SeqAt.shaped e = true) : f_eq x y ih = .ok (.bl (PyData.eqv d e)) ih := f_eqn_of h1 h2 s1 s2
theorem f_ne_of {x y : IV} {ih : IH} {d e : PyData} (h1 : Is ih x d) (h2 : Is ih y e) (s1 : SeqAt.shaped d = true) (s2 : SeqAt.shaped e = true) : f_ne x y ih = .ok (.bl (!PyData.eqv d e)) ih := f_eqn_of h1 h2 s1 s2
theorem s_eq {K : PySem.W.Frag} {W : WX} : Snd2 K W (rEqD K) f_eq := by
  intro r ih H x y u w σ Q hr hx hy q
  unfold f_eq f_eqn at q
  split at q
  · rename_i h
    have k := h.choose_spec
    exact ⟨_, _, Is.dp hr _ _ _ k.1 hx, Is.dp hr _ _ _ k.2.1 hy, k.2.2.1, k.2.2.2, tG_end q hr rfl⟩
  · exact q.elim
theorem s_ne {K : PySem.W.Frag} {W : WX} : Snd2 K W (rNeD K) f_ne := by
  intro r ih H x y u w σ Q hr hx hy q
  unfold f_ne f_eqn at q
  split at q
  · rename_i h
    have k := h.choose_spec
    exact ⟨_, _, Is.dp hr _ _ _ k.1 hx, Is.dp hr _ _ _ k.2.1 hy, k.2.2.1, k.2.2.2, tG_end q hr rfl⟩
  · exact q.elim
/-! ### is None -/
def f_isN (x y : IV) (ih : IH) : Res IV := if y = .non then .ok (.bl (decide (x = .non))) ih else .stuck
def f_notN (x y : IV) (ih : IH) : Res IV := if y = .non then .ok (.bl (!decide (x = .non))) ih else .stuck
theorem R.non {r : List Addr} {x : IV} {u : V} (h : R r x u) : decide (x = IV.non) = decide (u = V.non) := by
  cases x with
  | ref n =>
    obtain ⟨a, _, rfl⟩ := h.ref
    rfl
  | _ => rw [h.flat fun _ => IV.noConfusion]; rfl
theorem s_isN {K : PySem.W.Frag} {W : WX} : Snd2 K W (fun x y H Q => y = .non ∧ Q (.bl (decide (x = .non))) H) f_isN := by
  intro r ih H x y u w σ Q hr hx hy q
  unfold f_isN at q
  split at q
  · rename_i h
    subst h
    exact ⟨hy, tG_end q hr (by rw [hx.non]; rfl)⟩
  · exact q.elim
theorem s_notN {K : PySem.W.Frag} {W : WX} : Snd2 K W (fun x y H Q => y = .non ∧ Q (.bl (!decide (x = .non))) H) f_notN := by
  intro r ih H x y u w σ Q hr hx hy q
  unfold f_notN at q
  split at q
  · rename_i h
    subst h
    exact ⟨hy, tG_end q hr (by rw [hx.non]; rfl)⟩
  · exact q.elim
end L3
/-! L3d: displays, slices, built-in calls, methods; targets, statements, loops, comprehensions. -/
namespace L3
open PySem L2

/-! ### displays -/
def f_tup (xs : List IV) (ih : IH) : Res IV := if xs.length ≤ 100000 then .ok (.ref ih.length) (ih ++ [.tup xs]) else .stuck
def f_lst (xs : List IV) (ih : IH) : Res IV := if xs.length ≤ 100000 then .ok (.ref ih.length) (ih ++ [.lst xs]) else .stuck
section
variable {X : Cx} {K : PySem.W.Frag} {W : WX} {es : List Expr} {m : Env → IH → Res (List IV)} {pos : Pos}
theorem s_tup : SndC K W (fun xs H Q => xs.length ≤ sizeLine ∧ ∀ p, H p = none → Q (.ref p) (upd H p (.tup xs))) f_tup := by
  intro r ih H xs us σ Q hr hx q
  unfold f_tup at q
  split at q
  · rename_i hl
    exact ⟨by rw [← hx.length]; exact line5 hl, fun p hp => end_tup q hr hx hp⟩
  · exact q.elim
theorem s_lst : SndC K W (fun xs H Q => xs.length ≤ sizeLine ∧ ∀ p, H p = none → Q (.ref p) (upd H p (.lst xs))) f_lst := by
  intro r ih H xs us σ Q hr hx q
  unfold f_lst at q
  split at q
  · rename_i hl
    exact ⟨by rw [← hx.length]; exact line5 hl, fun p hp => end_lst q hr hx hp⟩
  · exact q.elim
theorem lm_tup {x1} (h : PA X es (tMA X.K W m)) : PE X (.Tuple es x1 pos) (tM X.K W (m_app f_tup m)) :=
  PE.of (pe_tup h) fun σ H Q ⟨r, ih, env, hr, he, q⟩ => tG.imp (tG_bind hr he q) fun u H1 ⟨r1, ih1, v, p, hr1, hv, q1⟩ => s_tup _ _ _ _ _ _ _ hr1 hv q1
theorem lm_lst (h : PA X es (tMA X.K W m)) : PE X (.List es pos) (tM X.K W (m_app f_lst m)) :=
  PE.of (pe_lst h) fun σ H Q ⟨r, ih, env, hr, he, q⟩ => tG.imp (tG_bind hr he q) fun u H1 ⟨r1, ih1, v, p, hr1, hv, q1⟩ => s_lst _ _ _ _ _ _ _ hr1 hv q1
end

/-! ### slices -/
def m_none (_ : Env) (ih : IH) : Res (Option Int) := .ok none ih
def m_some (ma : Env → IH → Res IV) (env : Env) (ih : IH) : Res (Option Int) := (ma env ih).bind fun v ih1 => match v with
  | .int i => .ok (some i) ih1
  | _ => .stuck
def cutI (xs : List IV) (lo hi : Option Int) : List IV := (xs.drop (HT.sIx xs.length 0 lo)).take (HT.sIx xs.length xs.length hi - HT.sIx xs.length 0 lo)
def f_sl (x : IV) (lo hi : Option Int) (ih : IH) : Res IV := match x with
  | .ref n => match ih[n]? with
    | some (.lst xs) => .ok (.ref ih.length) (ih ++ [.lst (cutI xs lo hi)])
    | some (.ro xs) => .ok (.ref ih.length) (ih ++ [.lst (cutI xs lo hi)])
    | some (.tup xs) => if ¬ (HT.sIx xs.length 0 lo = 0 ∧ HT.sIx xs.length xs.length hi = xs.length) then .ok (.ref ih.length) (ih ++ [.tup (cutI xs lo hi)]) else .stuck
    | _ => .stuck
  | _ => .stuck
def m_sl (ma : Env → IH → Res IV) (ml mh : Env → IH → Res (Option Int)) (env : Env) (ih : IH) : Res IV := (ma env ih).bind fun x ih1 => (ml env ih1).bind fun l ih2 => (mh env ih2).bind fun h ih3 => f_sl x l h ih3
theorem Rs.cut {r : List Addr} {xs : List IV} {ys : List V} (h : Rs r xs ys) (lo hi : Option Int) : Rs r (cutI xs lo hi) (cutV ys lo hi) := by
  unfold cutV cutI
  rw [h.length]
  exact (h.drop _).take _
abbrev rSlA (K : PySem.W.Frag) : V → Option Int → Option Int → Hp → VK → Prop := fun x lo hi H Q => rSlL K x lo hi H Q ∨ rSlT K x lo hi H Q
section
variable {X : Cx} {K : PySem.W.Frag} {W : WX} {e : Expr} {lo hi : Option Expr} {ma : Env → IH → Res IV} {ml mh : Env → IH → Res (Option Int)} {pos p2 : Pos}
theorem sl_A : SlR X (rSlA X.K) := sl_list.or sl_tup
theorem s_sl {r : List Addr} {ih : IH} {H : Hp} {x : IV} {u : V} {l h : Option Int} {σ : St} {Q : VK} (hr : Rel K r ih H) (hx : R r x u) (q : PGen R K W σ r (f_sl x l h ih) Q) : rSlA K u l h H Q := by
  unfold f_sl at q
  split at q
  · rename_i n
    obtain ⟨a, ea, rfl⟩ := hx.ref
    split at q
    · rename_i xs e1
      obtain ⟨ys, h1, h2⟩ := (hr.get n a _ ea e1).l rfl
      exact .inl ⟨a, ys, rfl, h1, fun p hp => end_lst q hr (h2.cut l h) hp⟩
    · rename_i xs e1
      obtain ⟨ys, h1, h2⟩ := (hr.get n a _ ea e1).l rfl
      exact .inl ⟨a, ys, rfl, h1, fun p hp => end_lst q hr (h2.cut l h) hp⟩
    · rename_i xs e1
      obtain ⟨ys, h1, h2⟩ := (hr.get n a _ ea e1).t rfl
      split at q
      · rename_i hc
        refine .inr ⟨a, ys, rfl, h1, ?_, fun p hp => end_tup q hr (h2.cut l h) hp⟩
        have hl : xs.length = ys.length := h2.length
        rw [← hl]
        exact hc
      · exact q.elim
    · exact q.elim
  · exact q.elim
theorem lo_none : PO X none (tG Oq X.K W m_none) := ⟨fun pins s σ H Q I ⟨r, ih, env, hr, he, q⟩ => po_none.run pins s σ H Q I (tG_end q hr rfl)⟩
theorem lo_some (h : PE X e (tM X.K W ma)) : PO X (some e) (tG Oq X.K W (m_some ma)) := ⟨fun pins s σ H Q I ⟨r, ih, env, hr, he, q⟩ => (po_some h).run pins s σ H Q I (tG.imp (tG_bind hr he q) fun u H1 ⟨r1, ih1, v, p, hr1, hv, q1⟩ => by
  cases v with
  | int i =>
    obtain rfl : u = .int i := hv
    exact ⟨i, rfl, tG_end q1 hr1 rfl⟩
  | _ => exact q1.elim)⟩
theorem lm_sl (ha : PE X e (tM X.K W ma)) (hl : PO X lo (tG Oq X.K W ml)) (hh : PO X hi (tG Oq X.K W mh)) : PE X (.Subscript e (.Slice lo hi none p2) pos) (tM X.K W (m_sl ma ml mh)) :=
  PE.of (pe_slice sl_A ha hl hh) fun σ H Q ⟨r, ih, env, hr, he, q⟩ => tG.imp (tG_bind hr he q) fun u H1 ⟨r1, ih1, v, p, hr1, hv, q1⟩ =>
    tG.imp (tG_bind hr1 (he.mono p) q1) fun w H2 ⟨r2, ih2, y, p2, hr2, hy, q2⟩ => tG.imp (tG_bind hr2 ((he.mono p).mono p2) q2) fun z H3 ⟨r3, ih3, y3, p3, hr3, hy3, q3⟩ => by
      obtain rfl : w = y := hy
      obtain rfl : z = y3 := hy3
      exact s_sl hr3 ((hv.mono p2).mono p3) q3
end

theorem Rs.one {r : List Addr} {x : IV} {us : List V} (h : Rs r [x] us) : ∃ u, us = [u] ∧ R r x u := by
  cases h with
  | cons a b =>
    cases b
    exact ⟨_, rfl, a⟩
theorem Rs.two {r : List Addr} {x y : IV} {us : List V} (h : Rs r [x, y] us) : ∃ u w, us = [u, w] ∧ R r x u ∧ R r y w := by
  cases h with
  | cons a b =>
    obtain ⟨w, rfl, c⟩ := Rs.one b
    exact ⟨_, w, rfl, a, c⟩
/-! ### built-in calls -/
def f_len (xs : List IV) (ih : IH) : Res IV := match xs with
  | [.ref n] => match ih[n]? with
    | some .dct => .stuck
    | some o => .ok (.int o.xs.length) ih
    | none => .stuck
  | [.str z] => if z.length ≤ 1000000 then .ok (.int z.length) ih else .stuck
  | _ => .stuck
def f_int (xs : List IV) (ih : IH) : Res IV := match xs with
  | [.int i] => .ok (.int i) ih
  | [.bl b] => .ok (.int (if b then 1 else 0)) ih
  | _ => .stuck
def f_abs (xs : List IV) (ih : IH) : Res IV := match xs with
  | [.int i] => .ok (.int (if i < 0 then -i else i)) ih
  | _ => .stuck
def f_max2 (xs : List IV) (ih : IH) : Res IV := match xs with
  | [.int i, .int j] => .ok (.int (if j > i then j else i)) ih
  | _ => .stuck
def f_min2 (xs : List IV) (ih : IH) : Res IV := match xs with
  | [.int i, .int j] => .ok (.int (if j < i then j else i)) ih
  | _ => .stuck
/-- the ints of values that are ints; the bools -/
def ints? : List IV → Option (List Int)
  | [] => some []
  | .int i :: r => (ints? r).map (i :: ·)
  | _ :: _ => none
def bls? : List IV → Option (List Bool)
  | [] => some []
  | .bl i :: r => (bls? r).map (i :: ·)
  | _ :: _ => none
theorem ints?_of {xs : List IV} {ns : List Int} : ints? xs = some ns → xs = ns.map IV.int := by
  induction xs generalizing ns with
  | nil => intro h; cases h; rfl
  | cons x r ihh =>
    intro h
    cases x with
    | int i =>
      unfold ints? at h
      obtain ⟨ms, e, rfl⟩ := Option.map_eq_some_iff.mp h
      rw [ihh e]
      rfl
    | _ => cases h
theorem ints?_map (ns : List Int) : ints? (ns.map IV.int) = some ns := by
  induction ns with
  | nil => rfl
  | cons n r ihh =>
    rw [List.map_cons]
    unfold ints?
    rw [ihh]
    rfl
theorem bls?_of {xs : List IV} {ns : List Bool} : bls? xs = some ns → xs = ns.map IV.bl := by
  induction xs generalizing ns with
  | nil => intro h; cases h; rfl
  | cons x r ihh =>
    intro h
    cases x with
    | bl i =>
      unfold bls? at h
      obtain ⟨ms, e, rfl⟩ := Option.map_eq_some_iff.mp h
      rw [ihh e]
      rfl
    | _ => cases h
theorem bls?_map (ns : List Bool) : bls? (ns.map IV.bl) = some ns := by
  induction ns with
  | nil => rfl
  | cons n r ihh =>
    rw [List.map_cons]
    unfold bls?
    rw [ihh]
    rfl
theorem Rs.flats {r : List Addr} {α : Type} {f : α → IV} (hf : ∀ a n, f a ≠ .ref n) : ∀ {ns : List α} {ys : List V}, Rs r (ns.map f) ys → ys = ns.map fun a => (f a).toV
  | [], _, h => by cases h; rfl
  | n :: r, _, h => by
    cases h with
    | cons h1 h2 => rw [List.map_cons, h1.flat (hf n), Rs.flats hf h2]
theorem Rs.flats_mk {r : List Addr} {α : Type} {f : α → IV} {g : α → V} (hf : ∀ a, R r (f a) (g a)) : ∀ ns : List α, Rs r (ns.map f) (ns.map g)
  | [] => .nil
  | n :: l => .cons (hf n) (Rs.flats_mk hf l)
/-- a call of a list of ints (or of bools) -/
def f_ints (g : List Int → IH → Res IV) (xs : List IV) (ih : IH) : Res IV := match xs with
  | [.ref n] => match ih[n]? with
    | some o => if o.isL = true then (match ints? o.xs with
      | some ns => g ns ih
      | none => .stuck) else .stuck
    | none => .stuck
  | _ => .stuck
def f_bls (g : List Bool → IH → Res IV) (xs : List IV) (ih : IH) : Res IV := match xs with
  | [.ref n] => match ih[n]? with
    | some o => if o.isL = true then (match bls? o.xs with
      | some ns => g ns ih
      | none => .stuck) else .stuck
    | none => .stuck
  | _ => .stuck
def f_sum := f_ints fun ns ih => .ok (.int ns.sum) ih
def f_all := f_bls fun ns ih => .ok (.bl (ns.all id)) ih
def f_any := f_bls fun ns ih => .ok (.bl (ns.any id)) ih
def maxI : List Int → Int
  | [] => 0
  | [a] => a
  | a :: b :: r => max a (maxI (b :: r))
def minI : List Int → Int
  | [] => 0
  | [a] => a
  | a :: b :: r => min a (minI (b :: r))
theorem maxI_spec : ∀ {ns : List Int}, 0 < ns.length → maxI ns ∈ ns ∧ ∀ y ∈ ns, y ≤ maxI ns
  | [a], _ => ⟨List.mem_singleton.mpr rfl, fun y hy => by rw [List.mem_singleton.mp hy]; exact Int.le_refl _⟩
  | a :: b :: r, _ => by
    obtain ⟨h1, h2⟩ := maxI_spec (ns := b :: r) (by simp)
    show max a (maxI (b :: r)) ∈ _ ∧ _
    refine ⟨?_, fun y hy => ?_⟩
    · by_cases h : a ≤ maxI (b :: r)
      · rw [Int.max_eq_right h]
        exact List.mem_cons_of_mem _ h1
      · rw [Int.max_eq_left (by omega)]
        exact List.mem_cons_self
    · show y ≤ max a (maxI (b :: r))
      rcases List.mem_cons.mp hy with e | e
      · omega
      · have := h2 y e
        omega
theorem minI_spec : ∀ {ns : List Int}, 0 < ns.length → minI ns ∈ ns ∧ ∀ y ∈ ns, minI ns ≤ y
  | [a], _ => ⟨List.mem_singleton.mpr rfl, fun y hy => by rw [List.mem_singleton.mp hy]; exact Int.le_refl _⟩
  | a :: b :: r, _ => by
    obtain ⟨h1, h2⟩ := minI_spec (ns := b :: r) (by simp)
    show min a (minI (b :: r)) ∈ _ ∧ _
    refine ⟨?_, fun y hy => ?_⟩
    · by_cases h : a ≤ minI (b :: r)
      · rw [Int.min_eq_left h]
        exact List.mem_cons_self
      · rw [Int.min_eq_right (by omega)]
        exact List.mem_cons_of_mem _ h1
    · show min a (minI (b :: r)) ≤ y
      rcases List.mem_cons.mp hy with e | e
      · omega
      · have := h2 y e
        omega
def f_max1 := f_ints fun ns ih => if 0 < ns.length then .ok (.int (maxI ns)) ih else .stuck
def f_min1 := f_ints fun ns ih => if 0 < ns.length then .ok (.int (minI ns)) ih else .stuck
def f_list (xs : List IV) (ih : IH) : Res IV := match xs with
  | [.ref n] => match ih[n]? with
    | some .dct => .stuck
    | some o => .ok (.ref ih.length) (ih ++ [.lst o.xs])
    | none => .stuck
  | _ => .stuck
def f_tuple (xs : List IV) (ih : IH) : Res IV := match xs with
  | [.ref n] => match ih[n]? with
    | some o => if o.isL = true then .ok (.ref ih.length) (ih ++ [.tup o.xs]) else if o.isT = true then .ok (.ref n) ih else .stuck
    | none => .stuck
  | _ => .stuck
/-- the type of a value -/
def tyN (x : IV) (ih : IH) : Option String := match x with
  | .non => some "NoneType"
  | .bl _ => some "bool"
  | .int _ => some "int"
  | .str _ => some "str"
  | .ref n => match ih[n]? with
    | some (.lst _) => some "list"
    | some (.tup _) => some "tuple"
    | some .dct => some "dict"
    | _ => none
  | _ => none
def f_isi (xs : List IV) (ih : IH) : Res IV := match xs with
  | [x, .ty T] => match tyN x ih with
    | some t => match kitB t T with
      | some b => .ok (.bl b) ih
      | none => .stuck
    | none => .stuck
  | _ => .stuck
section
variable {X : Cx} {K : PySem.W.Frag} {W : WX}
theorem s_len : SndC K W (fun xs H Q => (∃ p ys, xs = [.ref p] ∧ (SqL K H p ys ∨ SqT K H p ys) ∧ Q (.int ys.length) H) ∨ (∃ z, xs = [.str z] ∧ z.length ≤ sizeLine ∧ Q (.int z.length) H)) f_len := by
  intro r ih H xs us σ Q hr hx q
  unfold f_len at q
  split at q
  · rename_i n
    cases hx with
    | cons h1 h2 =>
      cases h2
      obtain ⟨a, ea, rfl⟩ := h1.ref
      split at q
      · exact q.elim
      · rename_i o nd e1
        have ho := hr.get n a _ ea e1
        refine .inl ?_
        cases hl : o.isL with
        | true =>
          obtain ⟨ys, h3, h4⟩ := ho.l hl
          exact ⟨a, ys, rfl, .inl h3, by rw [← h4.length]; exact tG_end q hr rfl⟩
        | false =>
          obtain ⟨ys, h3, h4⟩ := ho.t (MO.tf hl nd)
          exact ⟨a, ys, rfl, .inr h3, by rw [← h4.length]; exact tG_end q hr rfl⟩
      · exact q.elim
  · rename_i z
    cases hx with
    | cons h1 h2 =>
      cases h2
      obtain rfl := h1.flat fun _ => IV.noConfusion
      split at q
      · rename_i hl
        exact .inr ⟨z, rfl, line6 hl, tG_end q hr rfl⟩
      · exact q.elim
  · exact q.elim
theorem call_lenA : CallR X (.builtin "len") (fun xs H Q => (∃ p ys, xs = [.ref p] ∧ (SqL X.K H p ys ∨ SqT X.K H p ys) ∧ Q (.int ys.length) H) ∨ (∃ z, xs = [.str z] ∧ z.length ≤ sizeLine ∧ Q (.int z.length) H)) := call_len_seq.or call_len_str
theorem s_int : SndC K W (fun xs H Q => (∃ i, xs = [.int i] ∧ Q (.int i) H) ∨ ∃ k, xs = [.bl k] ∧ Q (.int (if k then 1 else 0)) H) f_int := by
  intro r ih H xs us σ Q hr hx q
  unfold f_int at q
  split at q
  · rename_i i
    obtain rfl := Rs.flats (f := IV.int) (fun _ _ => IV.noConfusion) (ns := [i]) hx
    exact .inl ⟨i, rfl, tG_end q hr rfl⟩
  · rename_i b
    obtain rfl := Rs.flats (f := IV.bl) (fun _ _ => IV.noConfusion) (ns := [b]) hx
    exact .inr ⟨b, rfl, tG_end q hr rfl⟩
  · exact q.elim
theorem s_abs : SndC K W (fun xs H Q => ∃ i, xs = [.int i] ∧ Q (.int (if i < 0 then -i else i)) H) f_abs := by
  intro r ih H xs us σ Q hr hx q
  unfold f_abs at q
  split at q
  · rename_i i
    obtain rfl := Rs.flats (f := IV.int) (fun _ _ => IV.noConfusion) (ns := [i]) hx
    exact ⟨i, rfl, tG_end q hr rfl⟩
  · exact q.elim
theorem s_max2 : SndC K W (fun xs H Q => ∃ i j, xs = [.int i, .int j] ∧ Q (.int (if j > i then j else i)) H) f_max2 := by
  intro r ih H xs us σ Q hr hx q
  unfold f_max2 at q
  split at q
  · rename_i i j
    obtain rfl := Rs.flats (f := IV.int) (fun _ _ => IV.noConfusion) (ns := [i, j]) hx
    exact ⟨i, j, rfl, tG_end q hr rfl⟩
  · exact q.elim
theorem s_min2 : SndC K W (fun xs H Q => ∃ i j, xs = [.int i, .int j] ∧ Q (.int (if j < i then j else i)) H) f_min2 := by
  intro r ih H xs us σ Q hr hx q
  unfold f_min2 at q
  split at q
  · rename_i i j
    obtain rfl := Rs.flats (f := IV.int) (fun _ _ => IV.noConfusion) (ns := [i, j]) hx
    exact ⟨i, j, rfl, tG_end q hr rfl⟩
  · exact q.elim
/-- one list of ints: what is known -/
theorem ints_got {r : List Addr} {ih : IH} {H : Hp} {xs : List IV} {us : List V} {σ : St} {Q : VK} {g : List Int → IH → Res IV} (hr : Rel K r ih H) (hx : Rs r xs us) (q : PGen R K W σ r (f_ints g xs ih) Q) :
    ∃ (a : Addr) (ns : List Int), us = [.ref a] ∧ SqL K H a (ns.map V.int) ∧ PGen R K W σ r (g ns ih) Q := by
  unfold f_ints at q
  split at q
  · rename_i n
    cases hx with
    | cons h1 h2 =>
      cases h2
      obtain ⟨a, ea, rfl⟩ := h1.ref
      split at q
      · rename_i o e1
        split at q
        · rename_i hl
          split at q
          · rename_i ns e2
            obtain ⟨ys, h3, h4⟩ := (hr.get n a _ ea e1).l hl
            rw [ints?_of e2] at h4
            obtain rfl := h4.flats fun _ _ => IV.noConfusion
            exact ⟨a, ns, rfl, h3, q⟩
          · exact q.elim
        · exact q.elim
      · exact q.elim
  · exact q.elim
theorem bls_got {r : List Addr} {ih : IH} {H : Hp} {xs : List IV} {us : List V} {σ : St} {Q : VK} {g : List Bool → IH → Res IV} (hr : Rel K r ih H) (hx : Rs r xs us) (q : PGen R K W σ r (f_bls g xs ih) Q) :
    ∃ (a : Addr) (ns : List Bool), us = [.ref a] ∧ SqL K H a (ns.map V.bl) ∧ PGen R K W σ r (g ns ih) Q := by
  unfold f_bls at q
  split at q
  · rename_i n
    cases hx with
    | cons h1 h2 =>
      cases h2
      obtain ⟨a, ea, rfl⟩ := h1.ref
      split at q
      · rename_i o e1
        split at q
        · rename_i hl
          split at q
          · rename_i ns e2
            obtain ⟨ys, h3, h4⟩ := (hr.get n a _ ea e1).l hl
            rw [bls?_of e2] at h4
            obtain rfl := h4.flats fun _ _ => IV.noConfusion
            exact ⟨a, ns, rfl, h3, q⟩
          · exact q.elim
        · exact q.elim
      · exact q.elim
  · exact q.elim
theorem s_sum : SndC K W (rSum K) f_sum := fun r ih H xs us σ Q hr hx q => let ⟨a, ns, e, h, q2⟩ := ints_got hr hx q; ⟨a, ns, e, h, tG_end q2 hr rfl⟩
theorem s_all : SndC K W (rAll K) f_all := fun r ih H xs us σ Q hr hx q => let ⟨a, ns, e, h, q2⟩ := bls_got hr hx q; ⟨a, ns, e, h, tG_end q2 hr rfl⟩
theorem s_any : SndC K W (rAny K) f_any := fun r ih H xs us σ Q hr hx q => let ⟨a, ns, e, h, q2⟩ := bls_got hr hx q; ⟨a, ns, e, h, tG_end q2 hr rfl⟩
theorem s_max1 : SndC K W (rMax K) f_max1 := fun r ih H xs us σ Q hr hx q => by
  obtain ⟨a, ns, e, h, q2⟩ := ints_got hr hx q
  split at q2
  · rename_i hl
    refine ⟨a, ns, e, h, hl, fun m hm hle => ?_⟩
    obtain ⟨h1, h2⟩ := maxI_spec hl
    have e2 : m = maxI ns := Int.le_antisymm (h2 m hm) (hle _ h1)
    rw [e2]
    exact tG_end q2 hr rfl
  · exact q2.elim
theorem s_min1 : SndC K W (rMin K) f_min1 := fun r ih H xs us σ Q hr hx q => by
  obtain ⟨a, ns, e, h, q2⟩ := ints_got hr hx q
  split at q2
  · rename_i hl
    refine ⟨a, ns, e, h, hl, fun m hm hle => ?_⟩
    obtain ⟨h1, h2⟩ := minI_spec hl
    have e2 : m = minI ns := Int.le_antisymm (hle _ h1) (h2 m hm)
    rw [e2]
    exact tG_end q2 hr rfl
  · exact q2.elim
theorem s_list : SndC K W (fun xs H Q => ∃ p ys, xs = [.ref p] ∧ (SqL K H p ys ∨ SqT K H p ys) ∧ ∀ l, H l = none → Q (.ref l) (upd H l (.lst ys))) f_list := by
  intro r ih H xs us σ Q hr hx q
  unfold f_list at q
  split at q
  · rename_i n
    cases hx with
    | cons h1 h2 =>
      cases h2
      obtain ⟨a, ea, rfl⟩ := h1.ref
      split at q
      · exact q.elim
      · rename_i o nd e1
        have ho := hr.get n a _ ea e1
        cases hl : o.isL with
        | true =>
          obtain ⟨ys, h3, h4⟩ := ho.l hl
          exact ⟨a, ys, rfl, .inl h3, fun l hp => end_lst q hr h4 hp⟩
        | false =>
          obtain ⟨ys, h3, h4⟩ := ho.t (MO.tf hl nd)
          exact ⟨a, ys, rfl, .inr h3, fun l hp => end_lst q hr h4 hp⟩
      · exact q.elim
  · exact q.elim
theorem s_tuple : SndC K W (fun xs H Q => ∃ p ys, xs = [.ref p] ∧ ((SqL K H p ys ∧ ∀ l, H l = none → Q (.ref l) (upd H l (.tup ys))) ∨ (SqT K H p ys ∧ Q (.ref p) H))) f_tuple := by
  intro r ih H xs us σ Q hr hx q
  unfold f_tuple at q
  split at q
  · rename_i n
    cases hx with
    | cons h1 h2 =>
      cases h2
      have h1' := h1
      obtain ⟨a, ea, rfl⟩ := h1.ref
      split at q
      · rename_i o e1
        have ho := hr.get n a _ ea e1
        split at q
        · rename_i hl
          obtain ⟨ys, h3, h4⟩ := ho.l hl
          exact ⟨a, ys, rfl, .inl ⟨h3, fun l hp => end_tup q hr h4 hp⟩⟩
        · split at q
          · rename_i hl
            obtain ⟨ys, h3, h4⟩ := ho.t hl
            exact ⟨a, ys, rfl, .inr ⟨h3, tG_end q hr h1'⟩⟩
          · exact q.elim
      · exact q.elim
  · exact q.elim
theorem s_isi : SndC K W (rIsi K) f_isi := by
  intro r ih H xs us σ Q hr hx q
  unfold f_isi at q
  split at q
  · rename_i x T
    obtain ⟨u, w, rfl, h1, h3⟩ := hx.two
    obtain rfl := h3.flat fun _ => IV.noConfusion
    · · split at q
        · rename_i t e1
          split at q
          · rename_i b e2
            have ty : TyX K H u (.type t) := by
              unfold tyN at e1
              split at e1
              · cases e1; obtain rfl := h1.flat fun _ => IV.noConfusion; exact .base .non
              · cases e1; obtain rfl := h1.flat fun _ => IV.noConfusion; exact .base (.bl _)
              · cases e1; obtain rfl := h1.flat fun _ => IV.noConfusion; exact .base (.int _)
              · cases e1; obtain rfl := h1.flat fun _ => IV.noConfusion; exact .base (.str _)
              · rename_i n
                obtain ⟨a, ea, rfl⟩ := h1.ref
                split at e1
                · rename_i xs e3
                  cases e1
                  obtain ⟨ys, h5, _⟩ := hr.get n a _ ea e3
                  exact .base (.lst h5)
                · rename_i xs e3
                  cases e1
                  obtain ⟨ys, h5, _⟩ := hr.get n a _ ea e3
                  exact .base (.tup h5)
                · rename_i e3
                  cases e1
                  obtain ⟨kvs, h5⟩ := hr.get n a _ ea e3
                  exact .base (.dK h5)
                · cases e1
              · cases e1
            exact ⟨u, .ty T, .type t, .type T, b, rfl, .ty T, ty, kit_ty e2, tG_end q hr rfl⟩
          · exact q.elim
        · exact q.elim
  · exact q.elim
end
end L3
/-! L3e: methods; targets, statements, loops, comprehensions, calls, defs. -/
namespace L3
open PySem L2

/-! ### methods of lists -/
def isLst (x : IV) (ih : IH) : Bool := match x with
  | .ref n => match ih[n]? with
    | some o => o.isL
    | none => false
  | _ => false
def m_mL (f : IV → List IV → IH → Res IV) (ma : Env → IH → Res IV) (mr : Env → IH → Res (List IV)) (env : Env) (ih : IH) : Res IV := (ma env ih).bind fun x ih1 => if isLst x ih1 = true then (mr env ih1).bind fun xs ih2 => f x xs ih2 else .stuck
def m_mL0 (f : IV → List IV → IH → Res IV) (ma : Env → IH → Res IV) (env : Env) (ih : IH) : Res IV := (ma env ih).bind fun x ih1 => if isLst x ih1 = true then f x [] ih1 else .stuck
def SndM (K : PySem.W.Frag) (W : WX) (rr : V → List V → Hp → VK → Prop) (f : IV → List IV → IH → Res IV) : Prop := ∀ (r : List Addr) (ih : IH) (H : Hp) (x : IV) (u : V) (xs : List IV) (us : List V) (σ : St) (Q : VK), Rel K r ih H → R r x u → Rs r xs us → PGen R K W σ r (f x xs ih) Q → rr u us H Q
def f_append (x : IV) (vs : List IV) (ih : IH) : Res IV := match x, vs with
  | .ref n, [y] => match ih[n]? with
    | some (.lst xs) => if xs.length < 100000 then .ok .non (ih.set n (.lst (xs ++ [y]))) else .stuck
    | _ => .stuck
  | _, _ => .stuck
def f_pop (x : IV) (vs : List IV) (ih : IH) : Res IV := match x, vs with
  | .ref n, [] => match ih[n]? with
    | some (.lst xs) => match xs[xs.length - 1]? with
      | some y => .ok y (ih.set n (.lst xs.dropLast))
      | none => .stuck
    | _ => .stuck
  | _, _ => .stuck
section
variable {X : Cx} {K : PySem.W.Frag} {W : WX} {a : Expr} {ma : Env → IH → Res IV}
theorem isLst_ty {r : List Addr} {ih : IH} {H : Hp} {x : IV} {u : V} (hr : Rel K r ih H) (hx : R r x u) (h : isLst x ih = true) : tyV K "list" u H := by
  unfold isLst at h
  split at h
  · rename_i n
    obtain ⟨a, ea, rfl⟩ := hx.ref
    split at h
    · rename_i o e1
      obtain ⟨ys, h1, _⟩ := (hr.get n a _ ea e1).l h
      exact .inl ⟨rfl, ys, h1⟩
    · cases h
  · cases h
theorem lm_mL {name : Str} {apos cpos : Pos} {id : String} {e : Expr} {es : List Expr} {rr : V → List V → Hp → VK → Prop} {f : IV → List IV → IH → Res IV} {mr : Env → IH → Res (List IV)} (slot : Slot "list" name id) (hty : typeOf (.builtin id) = pure (.type "method_descriptor")) (hm : MtR X id rr) (hf : SndM X.K W rr f)
    (ho : PE X a (tM X.K W ma)) (ha : PA X (e :: es) (tMA X.K W mr))
    (hbase : attributeBase a name X.env (eval a X.env) = eval a X.env := by rfl)
    (hfew : ((backTo cpos (starEach (e :: es) X.env)).all (fun x => !x.1) && (backToKw cpos (keywordEach [] X.env)).all (fun x => x.1.isSome)
      && decide ((e :: es).length + ([] : List Keyword).length + (if ([] : List Keyword).isEmpty then 0 else 1) < 30)) = true := by rfl)
    (hline : (apos.endLine == cpos.line) = true := by rfl) (hs : starEach (e :: es) X.env = (false, eval e X.env) :: starEach es X.env := by rfl) (hplain : (backTo cpos (starEach es X.env)).any (·.1) = false := by rfl) :
    PE X (.Call (.Attribute a name apos) (e :: es) [] cpos) (tM X.K W (m_mL f ma mr)) :=
  PE.of (pe_bm PySem.F.plainAttrs_list slot hty hm ho ha hbase hfew hline hs hplain) fun σ H Q ⟨r, ih, env, hr, he, q⟩ => tG.imp (tG_bind hr he q) fun u H1 ⟨r1, ih1, v, p, hr1, hv, q1⟩ => by
    dsimp only at q1
    by_cases hl : isLst v ih1 = true
    · rw [if_pos hl] at q1
      refine ⟨isLst_ty hr1 hv hl, ?_⟩
      exact tG.imp (tG_bind hr1 (he.mono p) q1) fun w H2 ⟨r2, ih2, y, p2, hr2, hy, q3⟩ => hf _ _ _ _ _ _ _ _ _ hr2 (hv.mono p2) hy q3
    · rw [if_neg hl] at q1
      exact q1.elim
theorem lm_mL0 {name : Str} {apos cpos : Pos} {id : String} {rr : V → List V → Hp → VK → Prop} {f : IV → List IV → IH → Res IV} (slot : Slot "list" name id) (hty : typeOf (.builtin id) = pure (.type "method_descriptor")) (hm : MtR X id rr) (hf : SndM X.K W rr f)
    (ho : PE X a (tM X.K W ma)) (hbase : attributeBase a name X.env (eval a X.env) = eval a X.env := by rfl) (hline : (apos.endLine == cpos.line) = true := by rfl) :
    PE X (.Call (.Attribute a name apos) [] [] cpos) (tM X.K W (m_mL0 f ma)) :=
  PE.of (pe_bm0 PySem.F.plainAttrs_list slot hty hm ho hbase hline) fun σ H Q ⟨r, ih, env, hr, he, q⟩ => tG.imp (tG_bind hr he q) fun u H1 ⟨r1, ih1, v, p, hr1, hv, q1⟩ => by
    dsimp only at q1
    by_cases hl : isLst v ih1 = true
    · rw [if_pos hl] at q1
      exact ⟨isLst_ty hr1 hv hl, hf _ _ _ _ _ _ _ _ _ hr1 hv .nil q1⟩
    · rw [if_neg hl] at q1
      exact q1.elim
/-- a list written -/
theorem end_set {r : List Addr} {ih : IH} {H : Hp} {σ : St} {Q : VK} {n : Nat} {a : Addr} {xs xs' : List IV} {ys : List V} {v : IV} {w : V} (q : PGen R K W σ r (.ok v (ih.set n (.lst xs'))) Q) (hr : Rel K r ih H) (e1 : r[n]? = some a) (e2 : ih[n]? = some (.lst xs)) (h : Rs r xs' ys) (hv : R r v w) : Q w (upd H a (.lst ys)) :=
  q _ _ _ (pre_refl r) (hr.write e1 e2 h) hv
theorem s_append : SndM K W rAppend f_append := by
  intro r ih H x u xs us σ Q hr hx hxs q
  unfold f_append at q
  split at q
  · rename_i n y
    obtain ⟨a, ea, rfl⟩ := hx.ref
    obtain ⟨w, rfl, hy⟩ := hxs.one
    split at q
    · rename_i zs e1
      obtain ⟨ys, h1, h2⟩ := hr.get n a _ ea e1
      split at q
      · rename_i hl
        exact ⟨a, ys, w, rfl, rfl, h1, by rw [← h2.length]; exact line5l hl, end_set q hr ea e1 (h2.append (.cons hy .nil)) rfl⟩
      · exact q.elim
    · exact q.elim
  · exact q.elim
theorem Rs.dropLast {r : List Addr} {xs : List IV} {us : List V} (h : Rs r xs us) : Rs r xs.dropLast us.dropLast := by
  rw [List.dropLast_eq_take, List.dropLast_eq_take, h.length]
  exact h.take _
theorem s_pop : SndM K W rPop f_pop := by
  intro r ih H x u xs us σ Q hr hx hxs q
  unfold f_pop at q
  split at q
  · rename_i n
    obtain ⟨a, ea, rfl⟩ := hx.ref
    cases hxs
    split at q
    · rename_i zs e1
      obtain ⟨ys, h1, h2⟩ := hr.get n a _ ea e1
      split at q
      · rename_i y e2
        obtain ⟨w, h3, h4⟩ := h2.get e2
        exact ⟨a, ys, w, rfl, rfl, h1, by rw [← h2.length]; exact h3, end_set q hr ea e1 h2.dropLast h4⟩
      · exact q.elim
    · exact q.elim
  · exact q.elim
end

/-! ### targets -/
/-- a target's rule follows its mirror; ks: the slots that it sets -/
def SndG (K : PySem.W.Frag) (ks : List Nat) (g : TG) (f : IV → Env → IH → Option Env) : Prop := ∀ (r : List Addr) (ih : IH) (H : Hp) (v : IV) (u : V) (env : Env) (σ : St) (Q : St → Hp → Prop), Rel K r ih H → R r v u → REnv r env σ →
  (∃ env', f v env ih = some env' ∧ ∀ σ', REnv r env' σ' → σ'.length = σ.length → (∀ j, j ∉ ks → σ'[j]? = σ[j]?) → Q σ' H) → g u σ H Q
def SndGs (K : PySem.W.Frag) (ks : List Nat) (g : TGs) (f : List IV → Env → IH → Option Env) : Prop := ∀ (r : List Addr) (ih : IH) (H : Hp) (v : List IV) (u : List V) (env : Env) (σ : St) (Q : St → Hp → Prop), Rel K r ih H → Rs r v u → REnv r env σ →
  (∃ env', f v env ih = some env' ∧ ∀ σ', REnv r env' σ' → σ'.length = σ.length → (∀ j, j ∉ ks → σ'[j]? = σ[j]?) → Q σ' H) → g u σ H Q
def g_nm (i : Nat) (v : IV) (env : Env) (_ : IH) : Option Env := some (env.set i (some v))
def g_nil (vs : List IV) (env : Env) (_ : IH) : Option Env := match vs with
  | [] => some env
  | _ :: _ => none
def g_cons (f : IV → Env → IH → Option Env) (g : List IV → Env → IH → Option Env) (vs : List IV) (env : Env) (ih : IH) : Option Env := match vs with
  | v :: r => (f v env ih).bind fun env' => g r env' ih
  | [] => none
def g_tup (n : Nat) (f : List IV → Env → IH → Option Env) (v : IV) (env : Env) (ih : IH) : Option Env := match v with
  | .ref k => match ih[k]? with
    | some o => if o.isT = true ∧ o.xs.length = n then f o.xs env ih else none
    | none => none
  | _ => none
def g_lst (n : Nat) (f : List IV → Env → IH → Option Env) (v : IV) (env : Env) (ih : IH) : Option Env := match v with
  | .ref k => match ih[k]? with
    | some o => if o.isL = true ∧ o.xs.length = n then f o.xs env ih else none
    | none => none
  | _ => none
section
variable {K : PySem.W.Frag}
theorem sg_nm (i : Nat) : SndG K [i] (gName i) (g_nm i) := fun r ih H v u env σ Q hr hv he ⟨env', e, q⟩ => by
  cases e
  exact q _ (he.set hv i) (by rw [List.length_set]) fun j hj => List.getElem?_set_ne (fun z => hj (by rw [z]; exact List.mem_singleton.mpr rfl))
theorem sg_nil : SndGs K [] gNil g_nil := fun r ih H v u env σ Q hr hv he ⟨env', e, q⟩ => by
  cases v with
  | nil =>
    cases hv
    cases e
    exact ⟨rfl, q σ he rfl fun _ _ => rfl⟩
  | cons a b => cases e
theorem sg_cons {ks ls : List Nat} {t : TG} {u : TGs} {f : IV → Env → IH → Option Env} {g : List IV → Env → IH → Option Env} (h1 : SndG K ks t f) (h2 : SndGs K ls u g) : SndGs K (ks ++ ls) (gCons t u) (g_cons f g) := fun r ih H v u env σ Q hr hv he ⟨env', e, q⟩ => by
  cases hv with
  | nil => cases e
  | cons a b =>
    obtain ⟨env1, e1, e2⟩ := Option.bind_eq_some_iff.mp e
    refine ⟨_, _, rfl, h1 r ih H _ _ env σ _ hr a he ⟨env1, e1, fun σ1 he1 l1 k1 => ?_⟩⟩
    exact h2 r ih H _ _ env1 σ1 _ hr b he1 ⟨env', e2, fun σ2 he2 l2 k2 => q σ2 he2 (l2.trans l1) fun j hj => (k2 j fun z => hj (List.mem_append_right _ z)).trans (k1 j fun z => hj (List.mem_append_left _ z))⟩
theorem sg_tup {n : Nat} {ks : List Nat} {t : TGs} {f : List IV → Env → IH → Option Env} (h : SndGs K ks t f) : SndG K ks (gTup K n t) (g_tup n f) := fun r ih H v u env σ Q hr hv he ⟨env', e, q⟩ => by
  unfold g_tup at e
  split at e
  · rename_i k _
    obtain ⟨a, ea, rfl⟩ := hv.ref
    split at e
    · rename_i o e1
      split at e
      · rename_i hl
        obtain ⟨ys, h3, h4⟩ := (hr.get k a _ ea e1).t hl.1
        exact ⟨a, ys, rfl, h3, by rw [← h4.length]; exact hl.2, h r ih H _ _ env σ _ hr h4 he ⟨env', e, q⟩⟩
      · cases e
    · cases e
  · cases e
theorem sg_lst {n : Nat} {ks : List Nat} {t : TGs} {f : List IV → Env → IH → Option Env} (h : SndGs K ks t f) : SndG K ks (gLst K n t) (g_lst n f) := fun r ih H v u env σ Q hr hv he ⟨env', e, q⟩ => by
  unfold g_lst at e
  split at e
  · rename_i k _
    obtain ⟨a, ea, rfl⟩ := hv.ref
    split at e
    · rename_i o e1
      split at e
      · rename_i hl
        obtain ⟨ys, h3, h4⟩ := (hr.get k a _ ea e1).l hl.1
        exact ⟨a, ys, rfl, h3, by rw [← h4.length]; exact hl.2, h r ih H _ _ env σ _ hr h4 he ⟨env', e, q⟩⟩
      · cases e
    · cases e
  · cases e
end

/-! ### statements -/
def ms_set (g : IV → Env → IH → Option Env) (m : Env → IH → Res IV) (env : Env) (ih : IH) : RS := (m env ih).stm env fun v ih1 => match g v env ih1 with
  | some env' => .ok (.next env') ih1
  | none => .stuck
def ms_expr (m : Env → IH → Res IV) (env : Env) (ih : IH) : RS := (m env ih).stm env fun _ ih1 => .ok (.next env) ih1
def ms_ret (m : Env → IH → Res IV) (env : Env) (ih : IH) : RS := (m env ih).stm env fun v ih1 => .ok (.ret v) ih1
def ms_retN (_ : Env) (ih : IH) : RS := .ok (.ret .non) ih
def ms_pass (env : Env) (ih : IH) : RS := .ok (.next env) ih
def ms_brk (env : Env) (ih : IH) : RS := .ok (.brk env) ih
def ms_cont (env : Env) (ih : IH) : RS := .ok (.cont env) ih
def ms_if (n : Env → IH → Res Bool) (ma mb : Env → IH → RS) (env : Env) (ih : IH) : RS := (n env ih).stm env fun b ih1 => if b = true then ma env ih1 else mb env ih1
def RS.seq (r : RS) (k : Env → IH → RS) : RS := match r with
  | .ok (.next env) ih => k env ih
  | z => z
@[simp] theorem RS.seq_next (env : Env) (ih : IH) (k : Env → IH → RS) : (RS.ok (.next env) ih).seq k = k env ih := rfl
@[simp] theorem RS.seq_ret (v : IV) (ih : IH) (k : Env → IH → RS) : (RS.ok (.ret v) ih).seq k = .ok (.ret v) ih := rfl
@[simp] theorem RS.seq_brk (v : Env) (ih : IH) (k : Env → IH → RS) : (RS.ok (.brk v) ih).seq k = .ok (.brk v) ih := rfl
@[simp] theorem RS.seq_cont (v : Env) (ih : IH) (k : Env → IH → RS) : (RS.ok (.cont v) ih).seq k = .ok (.cont v) ih := rfl
@[simp] theorem RS.seq_exc (c : Addr) (env : Env) (ih : IH) (k : Env → IH → RS) : (RS.exc c env ih).seq k = .exc c env ih := rfl
@[simp] theorem RS.seq_stuck (k : Env → IH → RS) : RS.stuck.seq k = .stuck := rfl
def ms_seq (ma mb : Env → IH → RS) (env : Env) (ih : IH) : RS := (ma env ih).seq mb
def ms_aug (i : Nat) (f : IV → IV → IH → Res IV) (m : Env → IH → Res IV) (env : Env) (ih : IH) : RS := match env[i]? with
  | some (some x) => (m env ih).stm env fun y ih1 => (f x y ih1).stm env fun z ih2 => .ok (.next (env.set i (some z))) ih2
  | _ => .stuck
def ms_par (i j : Nat) (m : Env → IH → Res (List IV)) (env : Env) (ih : IH) : RS := (m env ih).stm env fun vs ih1 => match vs with
  | [v, w] => .ok (.next ((env.set i (some v)).set j (some w))) ih1
  | _ => .stuck
/-- o[i] = v for a list -/
def f_setL (o i v : IV) (ih : IH) : Option IH := match o, i with
  | .ref n, .int k => match ih[n]? with
    | some (.lst xs) => match ixN xs.length k with
      | some j => some (ih.set n (.lst (xs.set j v)))
      | none => none
    | _ => none
  | _, _ => none
def ms_setL (m mo mi : Env → IH → Res IV) (env : Env) (ih : IH) : RS := (m env ih).stm env fun v ih1 => (mo env ih1).stm env fun o ih2 => (mi env ih2).stm env fun i ih3 => match f_setL o i v ih3 with
  | some ih4 => .ok (.next env) ih4
  | none => .stuck
def ms_raise (c : Addr) (env : Env) (ih : IH) : RS := .exc c env ih
section
variable {X : Cx} {K : PySem.W.Frag} {W : WX} {e : Expr} {m mo mi : Env → IH → Res IV} {n : Env → IH → Res Bool} {sa sb : Env → IH → RS} {pos : Pos} {r : List Addr} {ih : IH} {env : Env} {H : Hp} {σ : St} {D : Ends}
theorem st_end (h : PStm K W r (.ok (.next env) ih) D) (hr : Rel K r ih H) (he : REnv r env σ) : D.nx σ H := h r H σ (pre_refl r) hr he
theorem st_ret {v : IV} {u : V} (h : PStm K W r (.ok (.ret v) ih) D) (hr : Rel K r ih H) (hv : R r v u) : D.rt u H := h r H u (pre_refl r) hr hv
/-- the core of an assignment -/
theorem set_core {ks : List Nat} {g : TG} {f : IV → Env → IH → Option Env} (hg : SndG X.K ks g f) (h : tMS X.K W (ms_set f m) D σ H) : tM X.K W m σ H fun x H1 => g x σ H1 D.nx := by
  obtain ⟨r, ih, env, hr, he, q⟩ := h
  refine tG.imp (tG_stm hr he q) fun u H1 ⟨r1, ih1, v, p, hr1, hv, q1⟩ => ?_
  dsimp only at q1
  refine hg r1 ih1 H1 v u env σ _ hr1 hv (he.mono p) ?_
  cases e : f v env ih1 with
  | some env' =>
    rw [e] at q1
    exact ⟨env', rfl, fun σ' he' _ _ => st_end q1 hr1 he'⟩
  | none =>
    rw [e] at q1
    exact q1.elim
theorem ls_set {i : Nat} {x : Str} {pos' : Pos} (hN : X.N.Nodup) (hi : X.N[i]? = some x) (hx : Loc X.env.scope x) (he : PE X e (tM X.K W m)) (hs : swapsWith e (some (.Name x pos')) pos.line X.env = pure false := by rfl)
    (hf : X.fn x = true ∨ X.env.scope.names.lookup x = some .local := by first | exact .inl rfl | exact .inr rfl | assumption) : PS X (.Assign [.Name x pos'] e pos) (tMS X.K W (ms_set (g_nm i) m)) :=
  PS.of (ps_set hN hi hx he hs hf) fun D σ H h => set_core (sg_nm i) h
theorem ls_asg {tg : Expr} {ks : List Nat} {g : TG} {f : IV → Env → IH → Option Env} (he : PE X e (tM X.K W m)) (hg : PG X tg g) (sg : SndG X.K ks g f) (hs : swapsWithSole [tg] e pos.line X.env = pure false := by rfl) (hw : swappedStores [tg] e X.env = pure none := by rfl) (h1 : (assignEach [tg] X.env).map (·.2) = [assign tg X.env] := by rfl) :
    PS X (.Assign [tg] e pos) (tMS X.K W (ms_set f m)) := PS.of (ps_asg he hg hs hw h1) fun D σ H h => set_core sg h
theorem ls_expr (he : PE X e (tM X.K W m)) (hs : swapsWith e none pos.line X.env = pure false := by rfl) : PS X (.Expr e pos) (tMS X.K W (ms_expr m)) :=
  PS.of (ps_expr he hs) fun D σ H ⟨r, ih, env, hr, he, q⟩ => tG.imp (tG_stm hr he q) fun u H1 ⟨r1, ih1, v, p, hr1, hv, q1⟩ => st_end q1 hr1 (he.mono p)
theorem ls_ret (he : PE X e (tM X.K W m)) : PS X (.Return (some e) pos) (tMS X.K W (ms_ret m)) :=
  PS.of (ps_ret he) fun D σ H ⟨r, ih, env, hr, he, q⟩ => tG.imp (tG_stm hr he q) fun u H1 ⟨r1, ih1, v, p, hr1, hv, q1⟩ => st_ret q1 hr1 hv
theorem ls_retN : PS X (.Return none pos) (tMS X.K W ms_retN) := PS.of ps_retN fun D σ H ⟨r, ih, env, hr, he, q⟩ => st_ret q hr rfl
theorem ls_pass : PS X (.Pass pos) (tMS X.K W ms_pass) := PS.of ps_pass fun D σ H ⟨r, ih, env, hr, he, q⟩ => st_end q hr he
theorem ls_brk : PS X (.Break pos) (tMS X.K W ms_brk) := PS.of ps_break fun D σ H ⟨r, ih, env, hr, he, q⟩ => q r H σ (pre_refl r) hr he
theorem ls_cont : PS X (.Continue pos) (tMS X.K W ms_cont) := PS.of ps_continue fun D σ H ⟨r, ih, env, hr, he, q⟩ => q r H σ (pre_refl r) hr he
theorem ls_if {c : Expr} {a b : List Stmt} (hc : PT X c (tMT X.K W n)) (ha : PSs X a (tMS X.K W sa)) (hb : PSs X b (tMS X.K W sb)) : PS X (.If c a b pos) (tMS X.K W (ms_if n sa sb)) :=
  PS.of (ps_if hc ha hb) fun D σ H ⟨r, ih, env, hr, he, q⟩ => tG.imp (tG_stm hr he q) fun u H1 ⟨r1, ih1, v, p, hr1, hv, q1⟩ => by
    obtain rfl : u = v := hv
    cases u with
    | true => exact ⟨r1, ih1, env, hr1, he.mono p, q1⟩
    | false => exact ⟨r1, ih1, env, hr1, he.mono p, q1⟩
theorem lss_nil : PSs X [] (tMS X.K W ms_pass) := PSs.of pss_nil fun D σ H ⟨r, ih, env, hr, he, q⟩ => st_end q hr he
theorem lss_one {st : Stmt} (h : PS X st (tMS X.K W sa)) : PSs X [st] (tMS X.K W sa) := pss_one h
theorem lss_cons {st : Stmt} {rest : List Stmt} (h1 : PS X st (tMS X.K W sa)) (h2 : PSs X rest (tMS X.K W sb)) : PSs X (st :: rest) (tMS X.K W (ms_seq sa sb)) :=
  PSs.of (pss_cons h1 h2) fun D σ H ⟨r, ih, env, hr, he, q⟩ => by
    refine ⟨r, ih, env, hr, he, ?_⟩
    unfold ms_seq at q
    cases e : sa env ih with
    | ok f ih1 =>
      rw [e] at q
      cases f with
      | next env1 => exact fun r' H' σ' p hr' he' => ⟨r', ih1, env1, hr', he', PStm.mono p q⟩
      | brk env1 => exact q
      | cont env1 => exact q
      | ret v => exact q
    | exc c env1 ih1 => rw [e] at q; exact q
    | stuck => rw [e] at q; exact q
theorem ls_aug {i : Nat} {x : Str} {op : Operator} {rr : R2} {f : IV → IV → IH → Res IV} {pos' : Pos} (hN : X.N.Nodup) (hi : X.N[i]? = some x) (hx : Loc X.env.scope x) (ho : OpR X (inplaceOp op) rr) (hf : Snd2 X.K W rr f) (he : PE X e (tM X.K W m))
    (hfn : X.fn x = true ∨ X.env.scope.names.lookup x = some .local := by first | exact .inl rfl | exact .inr rfl | assumption) : PS X (.AugAssign (.Name x pos') op e pos) (tMS X.K W (ms_aug i f m)) :=
  PS.of (ps_aug (ti := rr) hN hi hx he (fun pins s σ H x y v u Q I rx ry q => ho pins s σ H x y v u Q I rx ry q) hfn) fun D σ H ⟨r, ih, env, hr, he, q⟩ => by
    unfold ms_aug at q
    split at q
    · rename_i v0 e0
      obtain ⟨u0, h1, h2⟩ := he.2 i v0 e0
      refine ⟨u0, h1, tG.imp (tG_stm hr he q) fun u H1 ⟨r1, ih1, v, p, hr1, hv, q1⟩ => ?_⟩
      dsimp only at q1
      refine hf r1 ih1 H1 v0 v u0 u σ _ hr1 (h2.mono p) hv ?_
      cases e : f v0 v ih1 with
      | ok z ih2 =>
        rw [e] at q1
        exact fun r' H' w p' hr' hw => q1 r' H' _ p' hr' ((he.mono (pre_trans p p')).set hw i)
      | exc c ih2 =>
        rw [e] at q1
        exact fun r' H' p' hr' => q1 r' H' σ p' hr' (he.mono (pre_trans p p'))
      | stuck =>
        rw [e] at q1
        exact q1
    · exact q.elim
theorem ls_par {i j : Nat} {x y : Str} {a b : Expr} {mm : Env → IH → Res (List IV)} {px py pt : Pos} {kt k2 : Nat} {pt2 : Pos} (hP : ∀ {ta : TA}, PA X [a, b] ta → PS X (.Assign [.Tuple [.Name x px, .Name y py] kt pt] (.Tuple [a, b] k2 pt2) pos) (tPar i j ta))
    (ha : PA X [a, b] (tMA X.K W mm)) : PS X (.Assign [.Tuple [.Name x px, .Name y py] kt pt] (.Tuple [a, b] k2 pt2) pos) (tMS X.K W (ms_par i j mm)) :=
  PS.of (hP ha) fun D σ H ⟨r, ih, env, hr, he, q⟩ => tG.imp (tG_stm hr he q) fun us H1 ⟨r1, ih1, vs, p, hr1, hv, q1⟩ => by
    dsimp only at q1
    split at q1
    · rename_i v w
      obtain ⟨u1, u2, rfl, h1, h2⟩ := hv.two
      exact ⟨u1, u2, rfl, st_end q1 hr1 (((he.mono p).set h1 i).set h2 j)⟩
    · exact q1.elim
theorem ls_setL {o i : Expr} {tpos : Pos} (he : PE X e (tM X.K W m)) (hg : ∀ {to ti : TE}, PE X o to → PE X i ti → PG X (.Subscript o i tpos) (gSub to ti rSetL)) (ho : PE X o (tM X.K W mo)) (hi : PE X i (tM X.K W mi))
    (hs : swapsWithSole [.Subscript o i tpos] e pos.line X.env = pure false := by rfl) (hw : swappedStores [.Subscript o i tpos] e X.env = pure none := by rfl) : PS X (.Assign [.Subscript o i tpos] e pos) (tMS X.K W (ms_setL m mo mi)) :=
  PS.of (ps_asg he (hg ho hi) hs hw) fun D σ H ⟨r, ih, env, hr, he, q⟩ => tG.imp (tG_stm hr he q) fun u H1 ⟨r1, ih1, v, p, hr1, hv, q1⟩ =>
    tG.imp (tG_stm hr1 (he.mono p) q1) fun u2 H2 ⟨r2, ih2, v2, p2, hr2, hv2, q2⟩ => tG.imp (tG_stm hr2 ((he.mono p).mono p2) q2) fun u3 H3 ⟨r3, ih3, v3, p3, hr3, hv3, q3⟩ => by
      dsimp only at q3
      cases e : f_setL v2 v3 v ih3 with
      | some ih4 =>
        rw [e] at q3
        unfold f_setL at e
        split at e
        · rename_i n k _
          obtain ⟨a, ea, rfl⟩ := (hv2.mono p3).ref
          obtain rfl : u3 = .int k := hv3
          split at e
          · rename_i xs e1
            obtain ⟨ys, h1, h2⟩ := hr3.get n a _ ea e1
            split at e
            · rename_i j ej
              cases e
              refine ⟨a, ys, k, j, rfl, rfl, h1, by rw [← h2.length]; exact ej, ?_⟩
              exact q3 r3 _ σ (pre_refl r3) (hr3.write ea e1 (h2.set ((hv.mono p2).mono p3) j)) (((he.mono p).mono p2).mono p3)
            · cases e
          · cases e
        · cases e
      | none =>
        rw [e] at q3
        exact q3.elim
theorem ls_raise {C : Addr} {bmB : List Value} {B newId initId : String} {x mm : Str} {j : Nat} {p p2 pos pos2 : Pos} (hc : X.calm = true) (tk : Takes X W) (F : ExcBaseFacts B newId initId bmB) (q : PySem.W.excIn X.K C bmB newId = true) (gC : X.mg x = some (.ref C)) (kC : PySem.W.keepIn X.K (.ref C) = true) (r : Raises X (.ref C)) (hg : Gl X x)
    (hdb : (x == ("__debug__" : Str)) = false := by decide) : PS X (.Raise (some (.Call (.Name x p) [.Constant (.str mm) j p2] [] pos)) none pos2) (tMS X.K W (ms_raise C)) :=
  PS.of (ps_raise hc tk (pmk_own F q gC kC r hg hdb)) fun D σ H ⟨r, ih, env, hr, he, q⟩ => q r H σ (pre_refl r) hr he
end
end L3
/-! L3f: what is walked, loops, comprehensions. -/
namespace L3
open PySem L2

/-! ### what is walked -/
inductive Src where
  | lst (n : Nat) | tup (n : Nat) | rng (lo c : Int) (k : Nat) | enm (n : Nat) | zip (n m : Nat)
/-- the i-th turn: stuck, the end, or an item (the heap may grow) -/
inductive Tr where
  | stuck | stop | item (v : IV) (ih : IH)
def MO.isK (o : MO) : Bool → Bool
  | true => o.isL
  | false => o.isT
def lAt (ih : IH) (n : Nat) (l : Bool) : Option (List IV) := match ih[n]? with
  | some o => if o.isK l = true then some o.xs else none
  | none => none
def Src.turn (s : Src) (i : Nat) (ih : IH) : Tr := match s with
  | .lst n => match lAt ih n true with
    | some xs => match xs[i]? with
      | some v => .item v ih
      | none => .stop
    | none => .stuck
  | .tup n => match lAt ih n false with
    | some xs => match xs[i]? with
      | some v => .item v ih
      | none => .stop
    | none => .stuck
  | .rng lo c k => if i < k then .item (.int (lo + (i : Int) * c)) ih else .stop
  | .enm n => match lAt ih n true with
    | some xs => match xs[i]? with
      | some v => .item (.ref ih.length) (ih ++ [.tup [.int (i : Int), v]])
      | none => .stop
    | none => .stuck
  | .zip n m => match lAt ih n true, lAt ih m true with
    | some xs, some ys => match xs[i]?, ys[i]? with
      | some v, some w => .item (.ref ih.length) (ih ++ [.tup [v, w]])
      | _, _ => .stop
    | _, _ => .stuck
/-- how many turns there are at most -/
def Src.size (s : Src) (ih : IH) : Nat := match s with
  | .lst n => match ih[n]? with
    | some o => o.xs.length
    | none => 0
  | .tup n => match ih[n]? with
    | some o => o.xs.length
    | none => 0
  | .rng _ _ k => k
  | .enm n => match ih[n]? with
    | some o => o.xs.length
    | none => 0
  | .zip n _ => match ih[n]? with
    | some o => o.xs.length
    | none => 0
def SRel (K : PySem.W.Frag) (r : List Addr) (s : Src) (J : It) : Prop := match s with
  | .lst n => ∃ a, r[n]? = some a ∧ J = Itl K a
  | .tup n => ∃ a, r[n]? = some a ∧ J = Itt K a
  | .rng lo c k => J.go = (fun i _ => i < k) ∧ J.yld = (fun i H x H' => H' = H ∧ x = .int (lo + (i : Int) * c)) ∧ J.stop = fun i _ => k ≤ i
  | .enm n => ∃ a, r[n]? = some a ∧ J = Ite K a
  | .zip n m => ∃ a b, r[n]? = some a ∧ r[m]? = some b ∧ J = Itz K a b
section
variable {K : PySem.W.Frag} {r r' : List Addr} {ih : IH} {H : Hp}
theorem lAt_l {n : Nat} {xs : List IV} {a : Addr} (hr : Rel K r ih H) (ea : r[n]? = some a) (h : lAt ih n true = some xs) : ∃ ys, SqL K H a ys ∧ Rs r xs ys := by
  unfold lAt at h
  split at h
  · rename_i o e
    split at h
    · rename_i hl
      cases h
      exact (hr.get n a _ ea e).l hl
    · cases h
  · cases h
theorem lAt_t {n : Nat} {xs : List IV} {a : Addr} (hr : Rel K r ih H) (ea : r[n]? = some a) (h : lAt ih n false = some xs) : ∃ ys, SqT K H a ys ∧ Rs r xs ys := by
  unfold lAt at h
  split at h
  · rename_i o e
    split at h
    · rename_i hl
      cases h
      exact (hr.get n a _ ea e).t hl
    · cases h
  · cases h
theorem Rs.none {xs : List IV} {ys : List V} {i : Nat} (h : Rs r xs ys) (e : xs[i]? = none) : ys.length ≤ i := by
  rw [← h.length]
  exact List.getElem?_eq_none_iff.mp e
/-- a turn of the mirror is a turn of the iterator -/
theorem turn_ok {s : Src} {J : It} {i : Nat} (hj : SRel K r s J) (hr : Rel K r ih H) : match s.turn i ih with
    | .stuck => True
    | .stop => J.stop i H
    | .item v ih1 => J.go i H ∧ ∀ x H', J.yld i H x H' → ∃ r1, r <+: r1 ∧ Rel K r1 ih1 H' ∧ R r1 v x := by
  cases s with
  | lst n =>
    obtain ⟨a, ea, rfl⟩ := hj
    unfold Src.turn
    dsimp only
    cases e : lAt ih n true with
    | none => trivial
    | some xs =>
      obtain ⟨ys, h1, h2⟩ := lAt_l hr ea e
      dsimp only
      cases e2 : xs[i]? with
      | none => exact ⟨ys, h1, h2.none e2⟩
      | some v =>
        obtain ⟨y, h3, h4⟩ := h2.get e2
        refine ⟨⟨ys, y, h1, h3⟩, fun x H' hy => ?_⟩
        obtain ⟨rfl, hy⟩ := hy
        have := (hy _ h1).symm.trans h3
        cases this
        exact ⟨r, pre_refl r, hr, h4⟩
  | tup n =>
    obtain ⟨a, ea, rfl⟩ := hj
    unfold Src.turn
    dsimp only
    cases e : lAt ih n false with
    | none => trivial
    | some xs =>
      obtain ⟨ys, h1, h2⟩ := lAt_t hr ea e
      dsimp only
      cases e2 : xs[i]? with
      | none => exact ⟨ys, h1, h2.none e2⟩
      | some v =>
        obtain ⟨y, h3, h4⟩ := h2.get e2
        refine ⟨⟨ys, y, h1, h3⟩, fun x H' hy => ?_⟩
        obtain ⟨rfl, hy⟩ := hy
        have := (hy _ h1).symm.trans h3
        cases this
        exact ⟨r, pre_refl r, hr, h4⟩
  | rng lo c k =>
    obtain ⟨h1, h2, h3⟩ := hj
    unfold Src.turn
    dsimp only
    by_cases hk : i < k
    · rw [if_pos hk]
      dsimp only
      rw [h1, h2]
      refine ⟨hk, fun x H' hy => ?_⟩
      obtain ⟨rfl, rfl⟩ := hy
      exact ⟨r, pre_refl r, hr, rfl⟩
    · rw [if_neg hk]
      dsimp only
      rw [h3]
      exact Nat.le_of_not_lt hk
  | enm n =>
    obtain ⟨a, ea, rfl⟩ := hj
    unfold Src.turn
    dsimp only
    cases e : lAt ih n true with
    | none => trivial
    | some xs =>
      obtain ⟨ys, h1, h2⟩ := lAt_l hr ea e
      dsimp only
      cases e2 : xs[i]? with
      | none => exact ⟨ys, h1, h2.none e2⟩
      | some v =>
        obtain ⟨y, h3, h4⟩ := h2.get e2
        refine ⟨⟨ys, y, h1, h3⟩, fun x H' hy => ?_⟩
        obtain ⟨T, z, rfl, hT, rfl, hy⟩ := hy
        have := (hy _ h1).symm.trans h3
        cases this
        exact ⟨r ++ [T], pre_one, hr.new hT rfl fun H' e => ⟨_, e, .cons rfl (.cons h4 .nil)⟩, R.newest hr.len⟩
  | zip n m =>
    obtain ⟨a, b, ea, eb, rfl⟩ := hj
    unfold Src.turn
    dsimp only
    cases e : lAt ih n true with
    | none => trivial
    | some xs =>
      cases e' : lAt ih m true with
      | none => trivial
      | some zs =>
        obtain ⟨ys, h1, h2⟩ := lAt_l hr ea e
        obtain ⟨ws, k1, k2⟩ := lAt_l hr eb e'
        dsimp only
        cases e2 : xs[i]? with
        | none => exact ⟨ys, ws, h1, k1, .inl (h2.none e2)⟩
        | some v =>
          cases e3 : zs[i]? with
          | none => exact ⟨ys, ws, h1, k1, .inr (k2.none e3)⟩
          | some w =>
            obtain ⟨y, h3, h4⟩ := h2.get e2
            obtain ⟨z, k3, k4⟩ := k2.get e3
            refine ⟨⟨ys, ws, y, z, h1, k1, h3, k3⟩, fun x H' hy => ?_⟩
            obtain ⟨T, p, q, rfl, hT, rfl, hy, hz⟩ := hy
            have g1 := (hy _ h1).symm.trans h3
            have g2 := (hz _ k1).symm.trans k3
            cases g1
            cases g2
            exact ⟨r ++ [T], pre_one, hr.new hT rfl fun H' e => ⟨_, e, .cons h4 (.cons k4 .nil)⟩, R.newest hr.len⟩
theorem SRel.mono {s : Src} {J : It} (p : r <+: r') (h : SRel K r s J) : SRel K r' s J := by
  cases s with
  | lst n => obtain ⟨a, e, h⟩ := h; exact ⟨a, pre_get p e, h⟩
  | tup n => obtain ⟨a, e, h⟩ := h; exact ⟨a, pre_get p e, h⟩
  | rng lo c k => exact h
  | enm n => obtain ⟨a, e, h⟩ := h; exact ⟨a, pre_get p e, h⟩
  | zip n m => obtain ⟨a, b, e, e2, h⟩ := h; exact ⟨a, b, pre_get p e, pre_get p e2, h⟩
end
abbrev tMI (K : PySem.W.Frag) (W : WX) (m : Env → IH → Res Src) : TI := tG (SRel K) K W m
def mi_lst (m : Env → IH → Res IV) (env : Env) (ih : IH) : Res Src := (m env ih).bind fun v ih1 => match v with
  | .ref n => match lAt ih1 n true with
    | some _ => .ok (.lst n) ih1
    | none => .stuck
  | _ => .stuck
def mi_tup (m : Env → IH → Res IV) (env : Env) (ih : IH) : Res Src := (m env ih).bind fun v ih1 => match v with
  | .ref n => match lAt ih1 n false with
    | some _ => .ok (.tup n) ih1
    | none => .stuck
  | _ => .stuck
def mi_enm (m : Env → IH → Res (List IV)) (env : Env) (ih : IH) : Res Src := (m env ih).bind fun vs ih1 => match vs with
  | [.ref n] => match lAt ih1 n true with
    | some _ => .ok (.enm n) ih1
    | none => .stuck
  | _ => .stuck
def mi_zip (m : Env → IH → Res (List IV)) (env : Env) (ih : IH) : Res Src := (m env ih).bind fun vs ih1 => match vs with
  | [.ref n, .ref k] => match lAt ih1 n true, lAt ih1 k true with
    | some _, some _ => .ok (.zip n k) ih1
    | _, _ => .stuck
  | _ => .stuck
def smallI (i : Int) : Bool := decide (-(2 ^ 62) ≤ i) && decide (i < 2 ^ 62)
def mi_rng1 (m : Env → IH → Res (List IV)) (env : Env) (ih : IH) : Res Src := (m env ih).bind fun vs ih1 => match vs with
  | [.int j] => if smallI j = true then .ok (.rng 0 1 j.toNat) ih1 else .stuck
  | _ => .stuck
def mi_rng2 (m : Env → IH → Res (List IV)) (env : Env) (ih : IH) : Res Src := (m env ih).bind fun vs ih1 => match vs with
  | [.int i, .int j] => if smallI i = true ∧ smallI j = true then .ok (.rng i 1 (j - i).toNat) ih1 else .stuck
  | _ => .stuck
theorem smallI_of {i : Int} (h : smallI i = true) : -(2 ^ 62) ≤ i ∧ i < 2 ^ 62 := by
  unfold smallI at h
  rw [Bool.and_eq_true] at h
  exact ⟨of_decide_eq_true h.1, of_decide_eq_true h.2⟩
section
variable {X : Cx} {W : WX} {tg e e2 : Expr} {m : Env → IH → Res IV} {ml : Env → IH → Res (List IV)} {p pos tpos : Pos} {elts : List Expr} {kk : Nat}
theorem PI.of {t t' : TI} (h : PI X tg e t) (w : ∀ σ H Q, t' σ H Q → t σ H Q) : PI X tg e t' := ⟨fun pins s σ H Q I q => h.run pins s σ H Q I (w σ H Q q)⟩
theorem li_lst (h : PE X e (tM X.K W m)) : PI X tg e (tMI X.K W (mi_lst m)) := PI.of (pi_list h) fun σ H Q ⟨r, ih, env, hr, he, q⟩ => tG.imp (tG_bind hr he q) fun u H1 ⟨r1, ih1, v, p, hr1, hv, q1⟩ => by
  dsimp only at q1
  split at q1
  · rename_i n _
    obtain ⟨a, ea, rfl⟩ := hv.ref
    split at q1
    · rename_i xs e1
      obtain ⟨ys, h1, _⟩ := lAt_l hr1 ea e1
      exact ⟨a, rfl, ⟨ys, h1⟩, tG_end q1 hr1 ⟨a, ea, rfl⟩⟩
    · exact q1.elim
  · exact q1.elim
theorem li_tup (h : PE X e (tM X.K W m)) : PI X tg e (tMI X.K W (mi_tup m)) := PI.of (pi_tup h) fun σ H Q ⟨r, ih, env, hr, he, q⟩ => tG.imp (tG_bind hr he q) fun u H1 ⟨r1, ih1, v, p, hr1, hv, q1⟩ => by
  dsimp only at q1
  split at q1
  · rename_i n _
    obtain ⟨a, ea, rfl⟩ := hv.ref
    split at q1
    · rename_i xs e1
      obtain ⟨ys, h1, _⟩ := lAt_t hr1 ea e1
      exact ⟨a, rfl, ⟨ys, h1⟩, tG_end q1 hr1 ⟨a, ea, rfl⟩⟩
    · exact q1.elim
  · exact q1.elim
theorem li_enm (hg : Gl X "enumerate") (hm : X.mg "enumerate" = none) (ha : PA X [e] (tMA X.K W ml)) (hs : starEach [e] X.env = [(false, eval e X.env)] := by rfl) : PI X (.Tuple elts kk tpos) (.Call (.Name "enumerate" p) [e] [] pos) (tMI X.K W (mi_enm ml)) :=
  PI.of (pi_enum hg hm ha hs) fun σ H Q ⟨r, ih, env, hr, he, q⟩ => tG.imp (tG_bind hr he q) fun u H1 ⟨r1, ih1, v, p, hr1, hv, q1⟩ => by
    dsimp only at q1
    split at q1
    · rename_i n _
      obtain ⟨w, rfl, hw⟩ := hv.one
      obtain ⟨a, ea, rfl⟩ := hw.ref
      split at q1
      · rename_i xs e1
        obtain ⟨ys, h1, _⟩ := lAt_l hr1 ea e1
        exact ⟨a, ys, rfl, h1, tG_end q1 hr1 ⟨a, ea, rfl⟩⟩
      · exact q1.elim
    · exact q1.elim
theorem li_zip (hg : Gl X "zip") (hm : X.mg "zip" = none) (ha : PA X [e, e2] (tMA X.K W ml)) (hs : starEach [e, e2] X.env = (false, eval e X.env) :: starEach [e2] X.env := by rfl) (hpl : (backTo pos (starEach [e2] X.env)).any (·.1) = false := by rfl) :
    PI X (.Tuple elts kk tpos) (.Call (.Name "zip" p) [e, e2] [] pos) (tMI X.K W (mi_zip ml)) :=
  PI.of (pi_zip hg hm ha hs hpl) fun σ H Q ⟨r, ih, env, hr, he, q⟩ => tG.imp (tG_bind hr he q) fun u H1 ⟨r1, ih1, v, p, hr1, hv, q1⟩ => by
    dsimp only at q1
    split at q1
    · rename_i n k _
      obtain ⟨w, w2, rfl, hw, hw2⟩ := hv.two
      obtain ⟨a, ea, rfl⟩ := hw.ref
      obtain ⟨b, eb, rfl⟩ := hw2.ref
      split at q1
      · rename_i xs zs e1 e2
        obtain ⟨ys, h1, _⟩ := lAt_l hr1 ea e1
        obtain ⟨ws, h2, _⟩ := lAt_l hr1 eb e2
        exact ⟨a, b, ys, ws, rfl, h1, h2, tG_end q1 hr1 ⟨a, b, ea, eb, rfl⟩⟩
      · exact q1.elim
    · exact q1.elim
theorem li_rng1 (hg : Gl X "range") (hm : X.mg "range" = none) (ha : PA X [e] (tMA X.K W ml)) (hs : starEach [e] X.env = [(false, eval e X.env)] := by rfl) : PI X tg (.Call (.Name "range" p) [e] [] pos) (tMI X.K W (mi_rng1 ml)) :=
  PI.of (pi_range1 hg hm ha hs) fun σ H Q ⟨r, ih, env, hr, he, q⟩ => tG.imp (tG_bind hr he q) fun u H1 ⟨r1, ih1, v, p, hr1, hv, q1⟩ => by
    dsimp only at q1
    split at q1
    · obtain ⟨w, rfl, hw⟩ := hv.one
      obtain rfl : w = .int _ := hw
      split at q1
      · rename_i hj
        obtain ⟨h1, h2⟩ := smallI_of hj
        refine ⟨_, rfl, h1, h2, tG_end q1 hr1 ⟨rfl, ?_, rfl⟩⟩
        funext i H x H'
        rw [Int.mul_one]
        rfl
      · exact q1.elim
    · exact q1.elim
theorem li_rng2 (hg : Gl X "range") (hm : X.mg "range" = none) (ha : PA X [e, e2] (tMA X.K W ml)) (hs : starEach [e, e2] X.env = [(false, eval e X.env), (false, eval e2 X.env)] := by rfl) (hs2 : starEach [e2] X.env = [(false, eval e2 X.env)] := by rfl) :
    PI X tg (.Call (.Name "range" p) [e, e2] [] pos) (tMI X.K W (mi_rng2 ml)) :=
  PI.of (pi_range2 hg hm ha hs hs2) fun σ H Q ⟨r, ih, env, hr, he, q⟩ => tG.imp (tG_bind hr he q) fun u H1 ⟨r1, ih1, v, p, hr1, hv, q1⟩ => by
    dsimp only at q1
    split at q1
    · obtain ⟨w, w2, rfl, hw, hw2⟩ := hv.two
      obtain rfl : w = .int _ := hw
      obtain rfl : w2 = .int _ := hw2
      split at q1
      · rename_i hj
        obtain ⟨h1, h2⟩ := smallI_of hj.1
        obtain ⟨h3, h4⟩ := smallI_of hj.2
        refine ⟨_, _, rfl, ⟨h1, h2, h3, h4⟩, tG_end q1 hr1 ⟨rfl, ?_, rfl⟩⟩
        funext i H x H'
        rw [Int.mul_one]
        rfl
      · exact q1.elim
    · exact q1.elim
end

/-! ### for, while -/
/-- behind a loop's body: the next turn, or the end -/
def RS.loop (r : RS) (k : Env → IH → RS) : RS := match r with
  | .ok (.next env) ih => k env ih
  | .ok (.cont env) ih => k env ih
  | .ok (.brk env) ih => .ok (.next env) ih
  | .ok (.ret v) ih => .ok (.ret v) ih
  | .exc c env ih => .exc c env ih
  | .stuck => .stuck
@[simp] theorem RS.loop_next (env : Env) (ih : IH) (k : Env → IH → RS) : (RS.ok (.next env) ih).loop k = k env ih := rfl
@[simp] theorem RS.loop_cont (env : Env) (ih : IH) (k : Env → IH → RS) : (RS.ok (.cont env) ih).loop k = k env ih := rfl
@[simp] theorem RS.loop_brk (env : Env) (ih : IH) (k : Env → IH → RS) : (RS.ok (.brk env) ih).loop k = .ok (.next env) ih := rfl
@[simp] theorem RS.loop_ret (v : IV) (ih : IH) (k : Env → IH → RS) : (RS.ok (.ret v) ih).loop k = .ok (.ret v) ih := rfl
@[simp] theorem RS.loop_exc (c : Addr) (env : Env) (ih : IH) (k : Env → IH → RS) : (RS.exc c env ih).loop k = .exc c env ih := rfl
@[simp] theorem RS.loop_stuck (k : Env → IH → RS) : RS.stuck.loop k = .stuck := rfl
def forGo (s : Src) (g : IV → Env → IH → Option Env) (mb : Env → IH → RS) : Nat → Nat → Env → IH → RS
  | 0, _, _, _ => .stuck
  | f + 1, i, env, ih => match s.turn i ih with
    | .stuck => .stuck
    | .stop => .ok (.next env) ih
    | .item v ih1 => match g v env ih1 with
      | some env1 => (mb env1 ih1).loop fun env2 ih2 => forGo s g mb f (i + 1) env2 ih2
      | none => .stuck
def ms_for (mi : Env → IH → Res Src) (g : IV → Env → IH → Option Env) (mb : Env → IH → RS) (env : Env) (ih : IH) : RS := (mi env ih).stm env fun s ih1 => forGo s g mb (s.size ih1 + 1) 0 env ih1
def whileGo (n : Env → IH → Res Bool) (mb : Env → IH → RS) : Nat → Env → IH → RS
  | 0, _, _ => .stuck
  | f + 1, env, ih => (n env ih).stm env fun b ih1 => if b = true then (mb env ih1).loop fun env2 ih2 => whileGo n mb f env2 ih2 else .ok (.next env) ih1
def ms_while (fuel : Nat) (n : Env → IH → Res Bool) (mb : Env → IH → RS) (env : Env) (ih : IH) : RS := whileGo n mb fuel env ih
section
variable {X : Cx} {K : PySem.W.Frag} {W : WX} {r : List Addr} {D : Ends}
/-- a body's end within a loop -/
theorem loop_body {res : RS} {k : Env → IH → RS} {N : St → Hp → Prop} (h : PStm K W r (res.loop k) D) (hN : ∀ r1 ih env σ H, r <+: r1 → Rel K r1 ih H → REnv r1 env σ → PStm K W r1 (k env ih) D → N σ H) : PStm K W r res { D with nx := N, ct := N, bk := D.nx } := by
  cases res with
  | ok f ih =>
    cases f with
    | next env => exact fun r' H' σ' p hr he => hN r' ih env σ' H' p hr he (PStm.mono p h)
    | cont env => exact fun r' H' σ' p hr he => hN r' ih env σ' H' p hr he (PStm.mono p h)
    | brk env => exact h
    | ret v => exact h
  | exc c env ih => exact h
  | stuck => exact h
theorem ls_for {iter tg : Expr} {body : List Stmt} {ks : List Nat} {g : TG} {f : IV → Env → IH → Option Env} {mi : Env → IH → Res Src} {mb : Env → IH → RS} {pos : Pos} (hp : PassesOwn (model X.prog X.w) X.A X.env X.xe) (hc : X.calm = true) (hi : PI X tg iter (tMI X.K W mi)) (hg : PG X tg g) (sg : SndG X.K ks g f)
    (hb : PSs X body (tMS X.K W mb)) (hs : ∀ x, foldedSetIterable iter X.env x = pure x := by intro _; rfl) : PS X (.For tg iter body [] pos) (tMS X.K W (ms_for mi f mb)) :=
  PS.of (ps_for hp hc hi hg hb hs) fun D σ H ⟨r, ih, env, hr, he, q⟩ => tG.imp (tG_stm hr he q) fun J H1 ⟨r1, ih1, s, p, hr1, hj, q1⟩ => by
    dsimp only at q1
    refine ⟨fun i m σ H => ∃ r2 ih2 env2, r1 <+: r2 ∧ Rel X.K r2 ih2 H ∧ REnv r2 env2 σ ∧ PStm X.K W r2 (forGo s f mb m i env2 ih2) D, ⟨_, r1, ih1, env, pre_refl r1, hr1, he.mono p, q1⟩, fun i m σ2 H2 ⟨r2, ih2, env2, p2, hr2, he2, q2⟩ => ?_⟩
    cases m with
    | zero => exact q2.elim
    | succ m =>
      unfold forGo at q2
      have t := turn_ok (i := i) (hj.mono p2) hr2
      split at q2
      · exact q2.elim
      · rename_i e
        rw [e] at t
        exact .inl ⟨t, st_end q2 hr2 he2⟩
      · rename_i v ih3 e
        rw [e] at t
        refine .inr ⟨t.1, fun σ3 H3 => ∃ r3 ih3 env3, r1 <+: r3 ∧ Rel X.K r3 ih3 H3 ∧ REnv r3 env3 σ3 ∧ PStm X.K W r3 (forGo s f mb m (i + 1) env3 ih3) D, fun σ3 H3 h => ⟨m, Nat.lt_succ_self m, h⟩, fun x H3 hy => ?_⟩
        obtain ⟨r3, p3, hr3, hv⟩ := t.2 x H3 hy
        cases eg : f v env2 ih3 with
        | none =>
          rw [eg] at q2
          exact q2.elim
        | some env3 =>
          rw [eg] at q2
          refine sg r3 ih3 H3 v x env2 σ2 _ hr3 hv (he2.mono p3) ⟨env3, eg, fun σ3 he3 _ _ => ?_⟩
          exact ⟨r3, ih3, env3, hr3, he3, loop_body (PStm.mono p3 q2) fun r4 ih4 env4 σ4 H4 p4 hr4 he4 q4 => ⟨r4, ih4, env4, pre_trans (pre_trans p2 p3) p4, hr4, he4, q4⟩⟩
theorem ls_while {c : Expr} {body : List Stmt} {n : Env → IH → Res Bool} {mb : Env → IH → RS} {pos : Pos} (fuel : Nat) (hp : PassesOwn (model X.prog X.w) X.A X.env X.xe) (hc : PT X c (tMT X.K W n)) (hb : PSs X body (tMS X.K W mb)) : PS X (.While c body [] pos) (tMS X.K W (ms_while fuel n mb)) :=
  PS.of (ps_while hp hc hb) fun D σ H ⟨r, ih, env, hr, he, q⟩ => by
    refine ⟨fun m σ H => ∃ r2 ih2 env2, Rel X.K r2 ih2 H ∧ REnv r2 env2 σ ∧ PStm X.K W r2 (whileGo n mb m env2 ih2) D, ⟨fuel, r, ih, env, hr, he, q⟩, fun m σ2 H2 ⟨r2, ih2, env2, hr2, he2, q2⟩ => ?_⟩
    cases m with
    | zero => exact q2.elim
    | succ m =>
      unfold whileGo at q2
      refine tG.imp (tG_stm hr2 he2 q2) fun u H3 ⟨r3, ih3, b, p3, hr3, hb3, q3⟩ => ?_
      obtain rfl : u = b := hb3
      cases u with
      | true =>
        rw [if_pos rfl] at q3
        show if true = true then _ else _
        rw [if_pos rfl]
        exact ⟨fun σ4 H4 => ∃ r4 ih4 env4, Rel X.K r4 ih4 H4 ∧ REnv r4 env4 σ4 ∧ PStm X.K W r4 (whileGo n mb m env4 ih4) D, fun σ4 H4 h => ⟨m, Nat.lt_succ_self m, h⟩,
          ⟨r3, ih3, env2, hr3, he2.mono p3, loop_body q3 fun r4 ih4 env4 σ4 H4 p4 hr4 he4 q4 => ⟨r4, ih4, env4, hr4, he4, q4⟩⟩⟩
      | false =>
        rw [if_neg Bool.false_ne_true] at q3
        show if false = true then _ else _
        rw [if_neg Bool.false_ne_true]
        exact st_end q3 hr3 (he2.mono p3)
end

/-! ### comprehensions -/
def lcGo (s : Src) (g : IV → Env → IH → Option Env) (n : Env → IH → Res Bool) (me : Env → IH → Res IV) (d : Nat) (env : Env) : Nat → Nat → IH → Res IV
  | 0, _, _ => .stuck
  | f + 1, i, ih => match s.turn i ih with
    | .stuck => .stuck
    | .stop => .ok (.ref d) ih
    | .item v ih1 => match g v env ih1 with
      | some env1 => match n env1 ih1 with
        | .ok true ih2 => match me env1 ih2 with
          | .ok y ih3 => match ih3[d]? with
            | some (.lst acc) => if acc.length < 100000 then lcGo s g n me d env f (i + 1) (ih3.set d (.lst (acc ++ [y]))) else .stuck
            | _ => .stuck
          | _ => .stuck
        | .ok false ih2 => lcGo s g n me d env f (i + 1) ih2
        | _ => .stuck
      | none => .stuck
def m_lc (vs : List Nat) (mi : Env → IH → Res Src) (g : IV → Env → IH → Option Env) (n : Env → IH → Res Bool) (me : Env → IH → Res IV) (env : Env) (ih : IH) : Res IV := (mi env ih).bind fun s ih1 => lcGo s g n me ih1.length (wipeI env vs) (s.size ih1 + 1) 0 (ih1 ++ [.lst []])
def n_yes (_ : Env) (ih : IH) : Res Bool := .ok true ih
abbrev W0 : WX := fun _ _ _ _ => False
theorem wipe_get {σ : St} : ∀ {vs : List Nat} {j : Nat}, j ∈ vs → j < σ.length → (wipe σ vs)[j]? = some none
  | v :: vs, j, h, hl => by
    unfold wipe
    by_cases e : v = j
    · rw [e, List.getElem?_set_self (by rw [wipe_length]; exact hl)]
    · rw [List.getElem?_set_ne e]
      exact wipe_get ((List.mem_cons.mp h).resolve_left fun z => e z.symm) hl
theorem wipe_agree {σ σ' : St} {vs ks : List Nat} (hk : ∀ k ∈ ks, k ∈ vs) (hl : σ'.length = (wipe σ vs).length) (h : ∀ j, j ∉ ks → σ'[j]? = (wipe σ vs)[j]?) : wipe σ' vs = wipe σ vs := by
  apply List.ext_getElem?
  intro j
  by_cases hj : j ∈ vs
  · by_cases hb : j < σ.length
    · rw [wipe_get hj hb, wipe_get hj (by rw [hl, wipe_length]; exact hb)]
    · rw [List.getElem?_eq_none (by rw [wipe_length, hl, wipe_length]; omega), List.getElem?_eq_none (by rw [wipe_length]; omega)]
  · rw [wipe_out hj, h j fun z => hj (hk j z)]
section
variable {X : Cx} {W : WX} {K : PySem.W.Frag}
theorem lc_weak {ks vs : List Nat} {g : TG} {f : IV → Env → IH → Option Env} {mi : Env → IH → Res Src} {n : Env → IH → Res Bool} {me : Env → IH → Res IV} {σ : St} {H : Hp} {Q : VK} (sg : SndG K ks g f) (hk : ∀ k ∈ ks, k ∈ vs) (h : tM K W (m_lc vs mi f n me) σ H Q) :
    tLc (tMI K W mi) g (tMT K W0 n) (tM K W0 me) vs σ H Q := by
  obtain ⟨r, ih, env, hr, he, q⟩ := h
  refine tG.imp (tG_bind hr he q) fun J H1 ⟨r1, ih1, s, p, hr1, hj, q1⟩ D hD => ?_
  dsimp only at q1
  have hr1' : Rel K (r1 ++ [D]) (ih1 ++ [.lst []]) (upd H1 D (.lst [])) := hr1.new hD rfl fun H' e => ⟨[], e, .nil⟩
  have hd : (r1 ++ [D])[ih1.length]? = some D := by
    obtain ⟨a, e, z⟩ := R.newest (p := D) hr1.len
    cases z
    exact e
  have hw := (he.mono (pre_trans p (pre_one (p := D)))).wipe vs
  refine ⟨fun i m H => ∃ r2 ih2, r1 ++ [D] <+: r2 ∧ Rel K r2 ih2 H ∧ PGen R K W σ r2 (lcGo s f n me ih1.length (wipeI env vs) m i ih2) Q, ⟨_, r1 ++ [D], _, pre_refl _, hr1', PGen.mono pre_one q1⟩, fun i m H2 ⟨r2, ih2, p2, hr2, q2⟩ => ?_⟩
  cases m with
  | zero => exact q2.elim
  | succ m =>
    unfold lcGo at q2
    have t := turn_ok (i := i) (hj.mono (pre_trans pre_one p2)) hr2
    split at q2
    · exact q2.elim
    · rename_i e
      rw [e] at t
      exact .inl ⟨t, tG_end q2 hr2 ⟨D, pre_get p2 hd, rfl⟩⟩
    · rename_i v ih3 e
      rw [e] at t
      refine .inr ⟨t.1, fun H3 => ∃ r3 ih3, r1 ++ [D] <+: r3 ∧ Rel K r3 ih3 H3 ∧ PGen R K W σ r3 (lcGo s f n me ih1.length (wipeI env vs) m (i + 1) ih3) Q, fun H3 h => ⟨m, Nat.lt_succ_self m, h⟩, fun x H3 hy => ?_⟩
      obtain ⟨r3, p3, hr3, hv⟩ := t.2 x H3 hy
      cases eg : f v (wipeI env vs) ih3 with
      | none =>
        rw [eg] at q2
        exact q2.elim
      | some env3 =>
        rw [eg] at q2
        refine sg r3 ih3 H3 v x (wipeI env vs) (wipe σ vs) _ hr3 hv (hw.mono (pre_trans p2 p3)) ⟨env3, eg, fun σ3 he3 l3 k3 => ⟨wipe_agree hk l3 k3, r3, ih3, env3, hr3, he3, ?_⟩⟩
        dsimp only at q2
        cases en : n env3 ih3 with
        | stuck => rw [en] at q2; exact q2.elim
        | exc c ih4 => rw [en] at q2; exact q2.elim
        | ok b ih4 =>
          rw [en] at q2
          intro r4 H4 b' p4 hr4 hb
          obtain rfl : b' = b := hb
          cases b' with
          | false => exact ⟨r4, ih4, pre_trans (pre_trans p2 p3) p4, hr4, PGen.mono (pre_trans p3 p4) q2⟩
          | true =>
            show if true = true then _ else _
            rw [if_pos rfl]
            refine ⟨r4, ih4, env3, hr4, he3.mono p4, ?_⟩
            dsimp only at q2
            cases em : me env3 ih4 with
            | stuck => rw [em] at q2; exact q2.elim
            | exc c ih5 => rw [em] at q2; exact q2.elim
            | ok y ih5 =>
              rw [em] at q2
              intro r5 H5 u p5 hr5 hu
              dsimp only at q2
              split at q2
              · rename_i acc ea
                split at q2
                · rename_i hl
                  have hD5 := pre_get (pre_trans (pre_trans (pre_trans p2 p3) p4) p5) hd
                  obtain ⟨ys, h1, h2⟩ := hr5.get _ D _ hD5 ea
                  exact ⟨ys, h1, by rw [← h2.length]; exact line5l hl, r5, _, pre_trans (pre_trans (pre_trans p2 p3) p4) p5, hr5.write hD5 ea (h2.append (.cons hu .nil)), PGen.mono (pre_trans (pre_trans p3 p4) p5) q2⟩
                · exact q2.elim
              · exact q2.elim
theorem lts_nil : PTs X [] (tMT X.K W n_yes) := ⟨fun pins s σ H Q I ⟨r, ih, env, hr, he, q⟩ => pts_nil.run pins s σ H Q I (tG_end q hr rfl)⟩
theorem lts_one {c : Expr} {n : Env → IH → Res Bool} (h : PT X c (tMT X.K W n)) : PTs X [c] (tMT X.K W n) := pts_one h
theorem lm_lc {elt tg iter : Expr} {ifs : List Expr} {scope : Scope} {own : List (Str × Nat)} {pos : Pos} {ks : List Nat} {g : TG} {f : IV → Env → IH → Option Env} {mi : Env → IH → Res Src} {n : Env → IH → Res Bool} {me : Env → IH → Res IV} (hc : X.calm = true) (hN : X.N.Nodup) (hi : PI X tg iter (tMI X.K W mi))
    (ok : BlkOk X.N X.env.scope scope own) (sg : SndG X.K ks g f) (hk : ∀ k ∈ ks, k ∈ own.map (·.2))
    (hg : ∀ (s : Shared) (H : Hp) (C : Addr) (cl : List (Str × Addr)) (fp : List Addr), PG (X.blk s H scope (compEnvC scope cl C X.env) fp) tg g) (ht : ∀ (s : Shared) (H : Hp) (C : Addr) (cl : List (Str × Addr)) (fp : List Addr), PTs (X.blk s H scope (compEnvC scope cl C X.env) fp) ifs (tMT X.K W0 n))
    (he : ∀ (s : Shared) (H : Hp) (C : Addr) (cl : List (Str × Addr)) (fp : List Addr), PE (X.blk s H scope (compEnvC scope cl C X.env) fp) elt (tM X.K W0 me)) (hs : ∀ x, foldedSetIterable iter X.env x = pure x := by intro _; rfl) :
    PE X (.ListComp elt [⟨tg, iter, ifs, 0⟩] scope pos) (tM X.K W (m_lc (own.map (·.2)) mi f n me)) := PE.of (pe_lc hc hN hi ok hg ht he hs) fun σ H Q h => lc_weak sg hk h
/-- name = [..] on one line, the name a local -/
theorem ls_lc {i : Nat} {y : Str} {py spos : Pos} {elt tg iter : Expr} {ifs : List Expr} {scope : Scope} {own : List (Str × Nat)} {pos : Pos} {ks : List Nat} {g : TG} {f : IV → Env → IH → Option Env} {mi : Env → IH → Res Src} {n : Env → IH → Res Bool} {me : Env → IH → Res IV} (hc : X.calm = true) (hN : X.N.Nodup) (hy : X.N[i]? = some y)
    (hyl : X.env.scope.names.lookup y = some .local) (hsw : swapsWith (.ListComp elt [⟨tg, iter, ifs, 0⟩] scope pos) (some (.Name y py)) spos.line X.env = pure true) (hi : PI X tg iter (tMI X.K W mi))
    (ok : BlkOk X.N X.env.scope scope own) (sg : SndG X.K ks g f) (hk : ∀ k ∈ ks, k ∈ own.map (·.2))
    (hg : ∀ (s : Shared) (H : Hp) (C : Addr) (cl : List (Str × Addr)) (fp : List Addr), PG (X.blk s H scope (compEnvC scope cl C X.env) fp) tg g) (ht : ∀ (s : Shared) (H : Hp) (C : Addr) (cl : List (Str × Addr)) (fp : List Addr), PTs (X.blk s H scope (compEnvC scope cl C X.env) fp) ifs (tMT X.K W0 n))
    (he : ∀ (s : Shared) (H : Hp) (C : Addr) (cl : List (Str × Addr)) (fp : List Addr), PE (X.blk s H scope (compEnvC scope cl C X.env) fp) elt (tM X.K W0 me)) (hs : ∀ x, foldedSetIterable iter X.env x = pure x := by intro _; rfl) :
    PS X (.Assign [.Name y py] (.ListComp elt [⟨tg, iter, ifs, 0⟩] scope pos) spos) (tMS X.K W (ms_set (g_nm i) (m_lc (own.map (·.2)) mi f n me))) := PS.of (ps_setLc hc hN hy hyl hsw hi ok hg ht he hs) fun D σ H h => lc_weak sg hk (set_core (sg_nm i) h)
end
end L3
/-! L3g: defs, their calls, try, the law's end. -/
namespace L3
open PySem PySem.Spec PyProof.Rows L2

/-- a def's promise: it does what its mirror m does -/
def spM (K : PySem.W.Frag) (n : Nat) (m : List IV → IH → Res IV) : Sp := fun vs H Q E => ∃ r ih args, args.length = n ∧ Rel K r ih H ∧ Rs r args vs ∧ PGen R K (fun cls d _ H => E cls d H) [] r (m args ih) Q
/-- a def of the text: x its name, dvs its defaults, n the number of its parameters -/
structure Df (P : Program) (w : World) (K : PySem.W.Frag) (mg : Str → Option Value) (base : Heap) (k : Nat) (x : Str) (n : Nat) (dvs : List IV) (m : List IV → IH → Res IV) : Prop where
  flat : ∀ d ∈ dvs, ∀ i, d ≠ .ref i
  ex : ∃ (f : Addr) (fd : FuncData) (ps : List Str), ps.length = n ∧ mg x = some (.ref f) ∧ PySem.W.keepIn K (.ref f) = true ∧ FnOk P w K mg base (L2.CX P w) k f fd ps (spM K n m) ∧ ∀ j, j ≤ dvs.length → ∃ ds, Vals ((dvs.drop j).map IV.toV) ds ∧ Binds K fd ps ds
/-- the call with the defaults behind the first j filled up -/
def f_call (n : Nat) (ds : List IV) (m : List IV → IH → Res IV) (xs : List IV) (ih : IH) : Res IV := if (xs ++ ds).length = n then m (xs ++ ds) ih else .stuck
section
variable {X : Cx} {W : WX} {k n j : Nat} {x : Str} {dvs : List IV} {m : List IV → IH → Res IV} {a : Expr} {es : List Expr} {p pos : Pos} {ma : Env → IH → Res (List IV)}
theorem run_fnD {CX : CXT} {f : Addr} {fd : FuncData} {ps : List Str} {sp : Sp} {pins : List (Addr × Obj)} {σ : L2.St} {H : Hp} {s : Shared} {Q : VK} {us : List Value} {vs dv : List V} {ds : List Value} {E : L2.St → XK} (F : FnOk X.prog X.w X.K X.mg X.base CX k f fd ps sp) (hr : Room k X.A) (hb : Binds X.K fd ps ds) (hd : Vals dv ds)
    (hx : PassesAt CX X σ (E σ)) (I : L2.Inv X pins σ H s) (r : Vals vs us) (h : sp (vs ++ dv) H Q (E σ)) : wpAny (model X.prog X.w) X.A (call (.ref f) us) (EP X pins σ Q) X.xe s := by
  have r2 : Vals (vs ++ dv) (us ++ ds) := r.append hd
  have hl : (us ++ ds).length = ps.length := by rw [← r2.length]; exact F.len _ _ _ _ h
  refine wpAny_call (codeAny_mono (F.run X.A X.stack s H ⟨us, []⟩ (us ++ ds) (vs ++ dv) Q (E σ) hr I.env0 (hb s us I.kIn hl) r2 h) fun r s' hq => ?_)
  cases r with
  | error e => exact hx pins H s e s' I hq
  | ok fl =>
    cases fl with
    | ret u => exact I.after hq
    | next => exact False.elim hq
    | brk => exact False.elim hq
    | cont => exact False.elim hq
theorem pe_callD {CX : CXT} {f : Addr} {fd : FuncData} {ps : List Str} {sp : Sp} {dv : List V} {ds : List Value} {E : L2.St → XK} {t : TA} (F : FnOk X.prog X.w X.K X.mg X.base CX k f fd ps sp) (hr : Room k X.A) (hg : Gl X x) (hm : X.mg x = some (.ref f)) (hk : PySem.W.keepIn X.K (.ref f) = true) (hb : Binds X.K fd ps ds) (hd : Vals dv ds) (hx : ∀ σ, PassesAt CX X σ (E σ))
    (ha : PA X (a :: es) t) (hdb : (x == ("__debug__" : Str)) = false := by decide) (he : starEach (a :: es) X.env = (false, eval a X.env) :: starEach es X.env := by rfl) (hpl : (backTo pos (starEach es X.env)).any (·.1) = false := by rfl) :
    PE X (.Call (.Name x p) (a :: es) [] pos) (fun σ H Q => t σ H fun vs H1 => sp (vs ++ dv) H1 Q (E σ)) := by
  refine ⟨fun pins s σ H Q I h => ?_⟩
  refine wpAny_Call_Name_kw (ld_glob I hg hm ?_ hdb)
  refine PySem.W.callWith_K (h₀ := X.base) I.ok.mod.kin hk (thn (ha.run pos pins s σ H _ I h) fun us s1 ⟨vs, H1, I1, r, q⟩ => ⟨I1.kIn, ?_⟩) he hpl
  exact run_fnD F hr hb hd (hx σ) I1 r q
theorem Rs.toV {r : List Addr} : ∀ {ds : List IV}, (∀ d ∈ ds, ∀ i, d ≠ .ref i) → Rs r ds (ds.map IV.toV)
  | [], _ => .nil
  | d :: ds, h => .cons (by
      have := h d List.mem_cons_self
      cases d with
      | ref i => exact absurd rfl (this i)
      | _ => rfl) (Rs.toV fun e he => h e (List.mem_cons_of_mem _ he))
theorem lm_call (D : Df X.prog X.w X.K X.mg X.base k x n dvs m) (j : Nat) (hj : j ≤ dvs.length) (hr : Room k X.A) (hg : Gl X x) (tk : Takes X W) (ha : PA X (a :: es) (tMA X.K W ma)) (hdb : (x == ("__debug__" : Str)) = false := by decide)
    (he : starEach (a :: es) X.env = (false, eval a X.env) :: starEach es X.env := by rfl) (hpl : (backTo pos (starEach es X.env)).any (·.1) = false := by rfl) : PE X (.Call (.Name x p) (a :: es) [] pos) (tM X.K W (m_app (f_call n (dvs.drop j) m) ma)) := by
  obtain ⟨f, fd, ps, hn, hm, hk, F, hB⟩ := D.ex
  obtain ⟨ds, hd, hb⟩ := hB j hj
  refine PE.of (pe_callD F hr hg hm hk hb hd (fun σ => passAt tk σ) ha hdb he hpl) fun σ H Q ⟨r, ih, env, hr, he, q⟩ => tG.imp (tG_bind hr he q) fun u H1 ⟨r1, ih1, v, p, hr1, hv, q1⟩ => ?_
  dsimp only at q1
  unfold f_call at q1
  split at q1
  · rename_i hl
    refine ⟨r1, ih1, v ++ dvs.drop j, hl, hr1, hv.append (Rs.toV fun d hd => D.flat d (List.mem_of_mem_drop hd)), ?_⟩
    cases e : m (v ++ dvs.drop j) ih1 with
    | ok y ih2 => rw [e] at q1; exact q1
    | exc c ih2 => rw [e] at q1; exact q1
    | stuck => rw [e] at q1; exact q1
  · exact q1.elim
end

/-- a def's run by its body's mirror -/
def startI (N : Nat) (args : List IV) : Env := args.map some ++ List.replicate (N - args.length) none
def RS.out (r : RS) : Res IV := match r with
  | .ok (.ret v) ih => .ok v ih
  | .ok (.next _) ih => .ok .non ih
  | .ok (.brk _) _ => .stuck
  | .ok (.cont _) _ => .stuck
  | .exc c _ ih => .exc c ih
  | .stuck => .stuck
@[simp] theorem RS.out_ret (v : IV) (ih : IH) : (RS.ok (.ret v) ih).out = .ok v ih := rfl
@[simp] theorem RS.out_next (v : Env) (ih : IH) : (RS.ok (.next v) ih).out = .ok .non ih := rfl
@[simp] theorem RS.out_exc (c : Addr) (v : Env) (ih : IH) : (RS.exc c v ih).out = .exc c ih := rfl
def defRun (N : Nat) (mb : Env → IH → RS) (args : List IV) (ih : IH) : Res IV := (mb (startI N args) ih).out
theorem start_rel {r : List Addr} {args : List IV} {vs : List V} {N : List Str} (h : Rs r args vs) : REnv r (startI N.length args) (L2.start N vs) := by
  unfold startI L2.start
  refine ⟨by rw [List.length_append, List.length_append, List.length_map, List.length_map, List.length_replicate, List.length_replicate, h.length], fun i v e => ?_⟩
  by_cases hi : i < args.length
  · rw [List.getElem?_append_left (by simpa using hi), List.getElem?_map] at e
    obtain ⟨w, e1, e2⟩ := Option.map_eq_some_iff.mp e
    cases e2
    obtain ⟨u, h1, h2⟩ := h.get e1
    exact ⟨u, by rw [List.getElem?_append_left (by rw [List.length_map, ← h.length]; exact hi), List.getElem?_map, h1]; rfl, h2⟩
  · rw [List.getElem?_append_right (by simpa using hi), List.getElem?_replicate] at e
    split at e <;> cases e
section
variable {P : Program} {w : World} {K : PySem.W.Frag} {mg : Str → Option Value} {base : Heap} {k : Nat} {x qual : Str} {st : Stmt} {dv : List V} {f : Addr} {fd : FuncData} {N ps : List Str} {mb : Env → IH → RS}
theorem df_fn (F : FunD K x qual (defArgs st) (defBody st) (defScope st) dv [] f fd) (S : FnScope N ps (defScope st))
    (hbody : ∀ (cdv : Value) (A : Around) (outer : List PySem.Env) (s : Shared) (H : Hp) (E : XK), Room k (A.deeper (envOfC qual (defScope st) s.heap.objs.size f cdv)) →
      PSs (cxOf (L2.CX P w) P w K mg base N qual (defScope st) f cdv A outer s H E) (defBody st) (tMS K (fun cls d _ H => E cls d H) mb)) :
    FnOk P w K mg base (L2.CX P w) (k + 1) f fd ps (spM K ps.length (defRun N.length mb)) := by
  refine F.ok S (fun vs H Q E ⟨r, ih, args, e, _, rs, _⟩ => rs.length ▸ e) fun cdv A outer s H vs Q E hr ⟨r, ih, args, e, hrel, rs, q⟩ => ⟨_, hbody cdv A outer s H E hr, r, ih, _, hrel, start_rel rs, ?_⟩
  unfold defRun at q
  cases z : mb (startI N.length args) ih with
  | ok fl ih2 =>
    rw [z] at q
    cases fl with
    | ret v => exact q
    | next env => exact fun r' H' σ' p hr' he' => q r' H' .non p hr' rfl
    | brk env => exact q.elim
    | cont env => exact q.elim
  | exc c env ih2 =>
    rw [z] at q
    exact fun r' H' σ' p hr' he' => q r' H' p hr'
  | stuck => rw [z] at q; exact q
/-- a def without defaults -/
theorem df_mk0 (F : FunD K x qual (defArgs st) (defBody st) (defScope st) [] [] f fd) (S : FnScope N ps (defScope st)) (hm : mg x = some (.ref f))
    (h : ∀ (kV doc pm : Value) (an : Option Addr) (cdv ct : Value) (us : List Value), us.length = ps.length → bindArgs (PySem.W.fnOf x qual (defArgs st) (defBody st) (defScope st) .none kV doc pm an cdv ct) ⟨us, []⟩ = pure (ps.zip us))
    (hbody : ∀ (cdv : Value) (A : Around) (outer : List PySem.Env) (s : Shared) (H : Hp) (E : XK), Room k (A.deeper (envOfC qual (defScope st) s.heap.objs.size f cdv)) →
      PSs (cxOf (L2.CX P w) P w K mg base N qual (defScope st) f cdv A outer s H E) (defBody st) (tMS K (fun cls d _ H => E cls d H) mb)) :
    Df P w K mg base (k + 1) x ps.length [] (defRun N.length mb) :=
  ⟨fun _ h => (nomatch h), f, fd, ps, rfl, hm, F.kp, df_fn F S hbody, fun j _ => ⟨[], by rw [List.drop_nil]; exact .nil, F.bindsN h⟩⟩
end

/-! ### try -/
/-- behind an except suite: its name goes -/
def RS.unset (r : RS) (i : Nat) : RS := match r with
  | .ok (.next env) ih => .ok (.next (env.set i none)) ih
  | .ok (.brk env) ih => .ok (.brk (env.set i none)) ih
  | .ok (.cont env) ih => .ok (.cont (env.set i none)) ih
  | .ok (.ret v) ih => .ok (.ret v) ih
  | .exc _ _ _ => .stuck
  | .stuck => .stuck
open Classical in
noncomputable def ms_try (i : Nat) (exm : Addr → Option Bool) (mb : Env → IH → RS) (ms : Addr → Addr → Env → IH → RS) (env : Env) (ih : IH) : RS := match mb env ih with
  | .exc c env1 ih1 => match exm c with
    | some true => if ∀ a, (ms a c (env1.set i (some (.gl a))) ih1).unset i = (ms 0 c (env1.set i (some (.gl 0))) ih1).unset i then (ms 0 c (env1.set i (some (.gl 0))) ih1).unset i else .stuck
    | some false => .exc c env1 ih1
    | none => .stuck
  | z => z
section
variable {X : Cx} {W : WX} {mb : Env → IH → RS} {ms : Addr → Addr → Env → IH → RS} {x n : Str} {c : Value} {i : Nat} {body suite : List Stmt} {b₀ : Stmt} {np pos pos' : Pos}
theorem ls_try (hs : X.stack = X.env :: X.outer) (hf : X.env.frame = some X.env.locals) (hN : X.N.Nodup) (hi : X.N[i]? = some n) (hln : X.env.kindOf n = some .local) (hc : Names X x c) (tk : Takes X W)
    (hb : ∀ (W : WX) (pn : List (Addr × Obj)) (xe : Value → Shared → Prop), Takes (X.tr pn xe) W → PassesOwn (model X.prog X.w) X.A X.env xe → PSs (X.tr pn xe) body (tMS X.K W mb))
    (hsu : ∀ (a cl : Addr) (oe : Obj) (pn : List (Addr × Obj)), Zc (.ref cl) none oe → (∃ vs, oe.data = .fields vs) → PSs (X.suite a ((a, oe) :: pn)) (b₀ :: suite) (tMS X.K W0 (ms a cl))) :
    PS X (.Try body [.ExceptHandler (some (.Name x np)) (some n) (b₀ :: suite) pos'] [] [] pos) (tMS X.K W (ms_try i (fun cl => PySem.W.exmOne X.K (.ref cl) c) mb ms)) := by
  refine PS.of (ps_try_as (tb := fun W => tMS X.K W mb) (ts := fun a cls d D σ H => ∃ cl, cls = .ref cl ∧ d = none ∧ tMS X.K W0 (ms a cl) D σ H) hs hf hN hi hln hc tk hb fun a oe cls d pn hz hd => ⟨fun pins s σ H D I ⟨cl, e1, e2, h⟩ => ?_⟩) fun D σ H ⟨r, ih, env, hr, he, q⟩ => ?_
  · subst e1
    subst e2
    exact (hsu a cl oe pn hz hd).run pins s σ H D I h
  · refine ⟨r, ih, env, hr, he, ?_⟩
    unfold ms_try at q
    cases e : mb env ih with
    | ok f ih1 =>
      rw [e] at q
      cases f with
      | next _ => exact q
      | brk _ => exact q
      | cont _ => exact q
      | ret _ => exact q
    | stuck => rw [e] at q; exact q
    | exc cl env1 ih1 =>
      rw [e] at q
      intro r1 H1 σ1 p1 hr1 he1
      dsimp only at q
      cases z : PySem.W.exmOne X.K (.ref cl) c with
      | none => rw [z] at q; exact q.elim
      | some b =>
        rw [z] at q
        refine ⟨b, z, fun hb1 a ha => ?_, fun hb0 => ?_⟩
        · subst hb1
          dsimp only at q
          split at q
          · rename_i hall
            rw [← hall a] at q
            refine ⟨cl, rfl, rfl, r1, ih1, env1.set i (some (.gl a)), hr1, he1.set (x := IV.gl a) (y := V.ref a) rfl i, ?_⟩
            cases z2 : ms a cl (env1.set i (some (.gl a))) ih1 with
            | ok f ih2 =>
              rw [z2] at q
              cases f with
              | next env2 => exact fun r2 H2 σ2 p2 hr2 he2 => q r2 H2 _ (pre_trans p1 p2) hr2 (he2.setN i)
              | brk env2 => exact fun r2 H2 σ2 p2 hr2 he2 => q r2 H2 _ (pre_trans p1 p2) hr2 (he2.setN i)
              | cont env2 => exact fun r2 H2 σ2 p2 hr2 he2 => q r2 H2 _ (pre_trans p1 p2) hr2 (he2.setN i)
              | ret v => exact fun r2 H2 u p2 hr2 hv => q r2 H2 u (pre_trans p1 p2) hr2 hv
            | exc c2 env2 ih2 => rw [z2] at q; exact q.elim
            | stuck => rw [z2] at q; exact q.elim
          · exact q.elim
        · subst hb0
          exact q r1 H1 σ1 p1 hr1 he1
end
/-- isinstance of the exception that the suite holds -/
def clsOf : IV → Option Value
  | .gl C => some (.ref C)
  | .ty T => some (.type T)
  | _ => none
open Classical in
noncomputable def f_isE (K : PySem.W.Frag) (a c : Addr) (xs : List IV) (ih : IH) : Res IV := match xs with
  | [.gl b, y] => if b = a ∧ ExcC K c then (match clsOf y with
    | some cv => match PySem.W.kitOne K (.ref c) cv with
      | some k => .ok (.bl k) ih
      | none => .stuck
    | none => .stuck) else .stuck
  | _ => .stuck
section
variable {X : Cx} {K : PySem.W.Frag} {W : WX} {a c : Addr} {oe : Obj} {pn : List (Addr × Obj)}
theorem call_isEA (hz : Zc (.ref c) none oe) (hf : ∃ vs, oe.data = .fields vs) : CallR (X.suite a ((a, oe) :: pn)) (.builtin "isinstance") (fun xs H Q => ExcC X.K c ∧ rIsE X.K c a xs H Q) :=
  fun pins s σ H xs us Q I r ⟨h1, h2⟩ => call_isE h1 hz hf pins s σ H xs us Q I r h2
theorem s_isE : SndC K W (fun xs H Q => ExcC K c ∧ rIsE K c a xs H Q) (f_isE K a c) := by
  intro r ih H xs us σ Q hr hx q
  unfold f_isE at q
  split at q
  · obtain ⟨u, v, rfl, h1, h2⟩ := hx.two
    split at q
    · rename_i hb
      split at q
      · rename_i cv e1
        split at q
        · rename_i k e2
          obtain rfl : u = .ref _ := h1
          refine ⟨hb.2, v, cv, k, by rw [hb.1], fun w hw => ?_, e2, tG_end q hr rfl⟩
          unfold clsOf at e1
          split at e1
          · cases e1
            obtain rfl : v = .ref _ := h2
            exact hw
          · cases e1
            obtain rfl : v = .ty _ := h2
            exact hw
          · cases e1
        · exact q.elim
      · exact q.elim
    · exact q.elim
  · exact q.elim
end

/-! ### the law's end -/
theorem law_end {K : PySem.W.Frag} {H : Hp} {a : Addr} {ns : List Int} {m : List IV → IH → Res IV} (hO : Only H) (hS : SqL K H a (ns.map V.int)) (h : ∃ ih, m [.ref 0] [.ro (ns.map IV.int)] = .ok (.bl true) ih) : spM K 1 m [.ref a] H (fun v _ => v = .bl true) fun _ _ _ => False := by
  obtain ⟨ih, h⟩ := h
  refine ⟨[a], [.ro (ns.map IV.int)], [.ref 0], rfl, ⟨rfl, fun n b o e1 e2 => ?_, fun n k b o u e1 e2 e3 e4 s1 s2 => ?_⟩, .cons ⟨a, rfl, rfl⟩ .nil, ?_⟩
  · cases n with
    | succ n => cases e1
    | zero =>
      cases e1
      cases e2
      refine ⟨ns.map V.int, ?_, Rs.flats_mk (f := IV.int) (g := V.int) (fun _ => rfl) ns⟩
      rcases hS with (z | ⟨o, z⟩) | z
      · rcases hO a with y | ⟨o, xs, y⟩
        · rw [y] at z; cases z
        · rw [y] at z; cases z
      · exact .inl ⟨o, z⟩
      · exact .inr (.inr z)
  · cases n with
    | succ n => cases e1
    | zero =>
      cases e3
      cases s1
  · rw [h]
    exact fun r' H' u p hr hv => hv
end L3
/-! L3h: the text's facts; defs, once more. -/
namespace L3
open PySem PySem.Spec PyProof.Rows L2

/-- the program's own classes by their addresses -/
structure Cs where
  K : PySem.W.Frag
  KernelError : Addr
  NoWidth : Addr
  NoLooks : Addr
  NoCycle : Addr
  NoRate : Addr
  NoReading : Addr
  NoLine : Addr
  NoProcessor : Addr
  NoTick : Addr
  NoLevels : Addr
  NoClock : Addr
  NoSlew : Addr
  Stopped : Addr
  NotStopped : Addr
  NoSlack : Addr
  NoPeriod : Addr
  NoFragile : Addr
  NoTimer : Addr
  NoWindow : Addr
  NoSpan : Addr
  NoProcess : Addr
  NoThread : Addr
  NoQuantum : Addr
  NoKernel : Addr
  NoCall : Addr
  TooMany : Addr
  NoRow : Addr
def IV.flat : IV → Bool
  | .ref _ => false
  | _ => true
/-- an own error class of the text -/
structure ExcX (K : PySem.W.Frag) (mg : Str → Option Value) (x : Str) (C : Addr) : Prop where
  g : mg x = some (.ref C)
  q : PySem.W.excIn K C [.type "ValueError", .type "Exception", .type "BaseException", .type "object"] "ValueError.__new__" = true
  k : PySem.W.keepIn K (.ref C) = true
  b : PySem.W.subIn K (.ref C) (.type "BaseException") = some true
  t : PySem.W.typeIn K (.ref C) = some (.type "type")
theorem lg_glob {X : Cx} {x : Str} {v : V} {pos : Pos} (h : ∃ u, X.mg x = some u ∧ RelV v u) (hg : Gl X x) (hd : (x == ("__debug__" : Str)) = false := by decide) : PE X (.Name x pos) (tC v) := by
  obtain ⟨u, h1, h2⟩ := h
  exact pe_glob hg h1 h2 hd
def f_addI := f_I0 fun i j => .int (i + j)
theorem s_addI {K : PySem.W.Frag} {W : WX} : Snd2 K W (rI0 fun i j => .int (i + j)) f_addI := snd_I0 fun _ _ _ => rfl
theorem iop_mulX {X : Cx} : OpR X (inplaceOp .Mult) (rI CMulX fun i j => .int (i * j)) := opI fun _ _ _ _ _ _ _ hc q => imul_int q hc.ok
/-- a chain of two comparisons -/
def m_chain (f g : IV → IV → IH → Res IV) (ma mb mc : Env → IH → Res IV) (env : Env) (ih : IH) : Res IV := (ma env ih).bind fun x ih1 => (mb env ih1).bind fun y ih2 => (f x y ih2).bind fun z ih3 => match z with
  | .bl k => if k = true then (mc env ih3).bind fun u ih4 => g y u ih4 else .ok (.bl false) ih3
  | _ => .stuck
section
variable {P : Program} {w : World} {K : PySem.W.Frag} {mg : Str → Option Value} {base : Heap} {k : Nat} {x qual : Str} {st : Stmt} {dv : List V} {f : Addr} {fd : FuncData} {N ps : List Str} {mb : Env → IH → RS}
/-- what a body may use: its context is a def's -/
abbrev BodyOk (P : Program) (w : World) (K : PySem.W.Frag) (mg : Str → Option Value) (base : Heap) (k : Nat) (N : List Str) (qual : Str) (st : Stmt) (f : Addr) (mb : Env → IH → RS) : Prop :=
  ∀ (cdv : Value) (A : Around) (outer : List PySem.Env) (s : Shared) (H : Hp) (E : XK), Room k (cxOf (L2.CX P w) P w K mg base N qual (defScope st) f cdv A outer s H E).A →
    Takes (cxOf (L2.CX P w) P w K mg base N qual (defScope st) f cdv A outer s H E) (fun cls d _ H => E cls d H) →
    PassesOwn (model P w) (cxOf (L2.CX P w) P w K mg base N qual (defScope st) f cdv A outer s H E).A (cxOf (L2.CX P w) P w K mg base N qual (defScope st) f cdv A outer s H E).env (cxOf (L2.CX P w) P w K mg base N qual (defScope st) f cdv A outer s H E).xe →
    (cxOf (L2.CX P w) P w K mg base N qual (defScope st) f cdv A outer s H E).A.units + 64 < cLine →
    PSs (cxOf (L2.CX P w) P w K mg base N qual (defScope st) f cdv A outer s H E) (defBody st) (tMS K (fun cls d _ H => E cls d H) mb)
theorem df_fn2 (F : FunD K x qual (defArgs st) (defBody st) (defScope st) dv [] f fd) (S : FnScope N ps (defScope st)) (hbody : BodyOk P w K mg base k N qual st f mb) : FnOk P w K mg base (L2.CX P w) (k + 1) f fd ps (spM K ps.length (defRun N.length mb)) :=
  df_fn F S fun cdv A outer s H E hr => hbody cdv A outer s H E hr (takes_of rfl rfl rfl rfl) (passes_of rfl) (by
    have h := hr.un
    show (A.deeper (envOfC qual (defScope st) s.heap.objs.size f cdv)).units + 64 < cLine
    omega)
theorem df0 (F : FunD K x qual (defArgs st) (defBody st) (defScope st) [] [] f fd) (S : FnScope N ps (defScope st)) (hm : mg x = some (.ref f))
    (h : ∀ (kV doc pm : Value) (an : Option Addr) (cdv ct : Value) (us : List Value), us.length = ps.length → bindArgs (PySem.W.fnOf x qual (defArgs st) (defBody st) (defScope st) .none kV doc pm an cdv ct) ⟨us, []⟩ = pure (ps.zip us))
    (hbody : BodyOk P w K mg base k N qual st f mb) : Df P w K mg base (k + 1) x ps.length [] (defRun N.length mb) :=
  ⟨fun _ h => (nomatch h), f, fd, ps, rfl, hm, F.kp, df_fn2 F S hbody, fun j _ => ⟨[], by rw [List.drop_nil]; exact .nil, F.bindsN h⟩⟩
theorem dfD {dvs : List IV} (F : FunD K x qual (defArgs st) (defBody st) (defScope st) dv [] f fd) (S : FnScope N ps (defScope st)) (hm : mg x = some (.ref f)) (hf : dvs.all IV.flat = true) (hd : dvs.map IV.toV = dv) (hn : dvs.length = dv.length)
    (hB : ∀ j, j ≤ dv.length → ∃ ds, Vals (dv.drop j) ds ∧ Binds K fd ps ds)
    (hbody : BodyOk P w K mg base k N qual st f mb) : Df P w K mg base (k + 1) x ps.length dvs (defRun N.length mb) :=
  ⟨fun d h i e => (by
    have z := List.all_eq_true.mp hf d h
    rw [e] at z
    cases z), f, fd, ps, rfl, hm, F.kp, df_fn2 F S hbody, fun j hj => by
    rw [List.map_drop, hd]
    exact hB j (by rw [← hn]; exact hj)⟩
/-- from the facts of the head -/
theorem fun0 {oc : Value} {od an : Option Addr} {osl : Array (Option Value)} {kV doc pm cdv ct : Value} (l : K.lookup f = some ⟨oc, od, .func (PySem.W.fnOf x qual (defArgs st) (defBody st) (defScope st) .none kV doc pm an cdv ct), osl⟩)
    (c : PySem.W.codeIn K cdv qual = true) (k : PySem.W.keepIn K (.ref f) = true) : FunD K x qual (defArgs st) (defBody st) (defScope st) [] [] f (PySem.W.fnOf x qual (defArgs st) (defBody st) (defScope st) .none kV doc pm an cdv ct) :=
  ⟨⟨oc, od, .none, kV, doc, pm, an, cdv, ct, osl, rfl, l, c, .inl ⟨rfl, rfl⟩, .inl rfl⟩, k⟩
theorem funD {oc : Value} {od an : Option Addr} {osl : Array (Option Value)} {kV doc pm cdv ct : Value} {T : Addr} {o : Obj} {its : List Value} {n : Nat} (l : K.lookup f = some ⟨oc, od, .func (PySem.W.fnOf x qual (defArgs st) (defBody st) (defScope st) (.ref T) kV doc pm an cdv ct), osl⟩)
    (c : PySem.W.codeIn K cdv qual = true) (k : PySem.W.keepIn K (.ref f) = true) (lT : K.lookup T = some o) (oT : o.data = .seq its.toArray n) (hv : Vals dv its) (hd : dv ≠ []) : FunD K x qual (defArgs st) (defBody st) (defScope st) dv [] f (PySem.W.fnOf x qual (defArgs st) (defBody st) (defScope st) (.ref T) kV doc pm an cdv ct) :=
  ⟨⟨oc, od, .ref T, kV, doc, pm, an, cdv, ct, osl, rfl, l, c, .inr ⟨hd, T, o, its, n, rfl, lT, oT, hv⟩, .inl rfl⟩, k⟩
end
end L3
/-! L3i: the law's promise, from its mirror. -/
namespace L3
open PySem PySem.Spec PyProof.Rows L2

/-- the law's promise: True of every script -/
def spLaw (K : PySem.W.Frag) : Sp := fun vs H Q _ => ∃ (a : Addr) (ns : List Int), vs = [.ref a] ∧ ns.length ≤ 63 ∧ (∀ z ∈ ns, Builtin.Int.intBits z ≤ 1048576) ∧ Only H ∧ SqL K H a (ns.map V.int) ∧ ∀ H', Q (.bl true) H'
theorem law_imp {K : PySem.W.Frag} {m : List IV → IH → Res IV} (h : ∀ ns : List Int, ns.length ≤ 63 → (∀ z ∈ ns, Builtin.Int.intBits z ≤ 1048576) → ∃ ih, m [.ref 0] [.ro (ns.map IV.int)] = .ok (.bl true) ih) :
    ∀ vs H Q E, spLaw K vs H Q E → spM K 1 m vs H Q E := fun vs H Q E ⟨a, ns, e, h1, h2, hO, hS, q⟩ => by
  subst e
  obtain ⟨ih, h⟩ := h ns h1 h2
  refine ⟨[a], [.ro (ns.map IV.int)], [.ref 0], rfl, ⟨rfl, fun n b o e1 e2 => ?_, fun n k b o u e1 e2 e3 e4 s1 s2 => ?_⟩, .cons ⟨a, rfl, rfl⟩ .nil, ?_⟩
  · cases n with
    | succ n => cases e1
    | zero =>
      cases e1
      cases e2
      refine ⟨ns.map V.int, ?_, Rs.flats_mk (f := IV.int) (g := V.int) (fun _ => rfl) ns⟩
      rcases hS with (z | ⟨o, z⟩) | z
      · rcases hO a with y | ⟨o, xs, y⟩
        · rw [y] at z; cases z
        · rw [y] at z; cases z
      · exact .inl ⟨o, z⟩
      · exact .inr (.inr z)
  · cases n with
    | succ n => cases e1
    | zero =>
      cases e3
      cases s1
  · rw [h]
    exact fun r' H' u p hr hv => by
      obtain rfl : u = .bl true := hv
      exact q H'
theorem cx_none {P : Program} {w : World} {H : Hp} {s : Shared} {e : Value} {s' : Shared} (h : L2.CX P w [] H s (fun _ _ _ => False) e s') : False := by
  obtain ⟨_, _, _, _, _, _, _, _, _, _, _, _, z⟩ := h
  exact z
end L3
/-! L3j: chains of two comparisons. -/
namespace L3
open PySem L2
def mi_rng3 (m : Env → IH → Res (List IV)) (env : Env) (ih : IH) : Res Src := (m env ih).bind fun vs ih1 => match vs with
  | [.int i, .int j, .int k] => if k = -1 ∧ smallI i = true ∧ smallI j = true then .ok (.rng i (-1) (i - j).toNat) ih1 else .stuck
  | _ => .stuck
section
variable {X : Cx} {W : WX} {a b c : Expr} {ma mb mc : Env → IH → Res IV} {pos : Pos}
theorem chain_core {rr rr' : R2} {f g : IV → IV → IH → Res IV} (hf : Snd2 X.K W rr f) (hg : Snd2 X.K W rr' g) {σ : St} {H : Hp} {Q : VK} (h : tM X.K W (m_chain f g ma mb mc) σ H Q) : tChain rr rr' (tM X.K W ma) (tM X.K W mb) (tM X.K W mc) σ H Q := by
  obtain ⟨r, ih, env, hr, he, q⟩ := h
  refine tG.imp (tG_bind hr he q) fun u H1 ⟨r1, ih1, v, p, hr1, hv, q1⟩ => tG.imp (tG_bind hr1 (he.mono p) q1) fun w H2 ⟨r2, ih2, y, p2, hr2, hy, q2⟩ => hf r2 ih2 H2 v y u w σ _ hr2 (hv.mono p2) hy ?_
  dsimp only at q2
  cases e : f v y ih2 with
  | ok z ih3 =>
    rw [e] at q2
    intro r3 H3 z' p3 hr3 hz
    cases z with
    | bl k =>
      obtain rfl : z' = .bl k := hz
      refine ⟨k, rfl, ?_⟩
      cases k with
      | true =>
        rw [if_pos rfl]
        have q3 : PGen R X.K W σ r2 ((mc env ih3).bind fun u ih4 => g y u ih4) Q := q2
        exact tG.imp (tG_bind hr3 (he.mono (pre_trans p (pre_trans p2 p3))) (PGen.mono p3 q3)) fun u4 H4 ⟨r4, ih4, v4, p4, hr4, hv4, q4⟩ => hg _ _ _ _ _ _ _ _ _ hr4 (hy.mono (pre_trans p3 p4)) hv4 q4
      | false =>
        rw [if_neg (by decide)]
        have q3 : PGen R X.K W σ r2 (.ok (.bl false) ih3) Q := q2
        exact q3 r3 H3 _ p3 hr3 rfl
    | _ => exact (q2 : False).elim
  | exc c ih3 =>
    rw [e] at q2
    exact q2
  | stuck =>
    rw [e] at q2
    exact q2
theorem lm_chain {op op' : CmpOp} {rr rr' : R2} {f g : IV → IV → IH → Res IV} (ho : OpR X (compareOp op) rr) (hf : Snd2 X.K W rr f) (ho' : OpR X (compareOp op') rr') (hg : Snd2 X.K W rr' g) (ha : PE X a (tM X.K W ma)) (hb : PE X b (tM X.K W mb)) (hc : PE X c (tM X.K W mc))
    (hm : lastMarks [op, op'] [b, c] = false := by with_unfolding_all rfl) : PE X (.Compare a [op, op'] [b, c] pos) (tM X.K W (m_chain f g ma mb mc)) := PE.of (pe_chain ho ho' ha hb hc hm) fun σ H Q h => chain_core hf hg h
theorem lt_chain {op op' : CmpOp} {rr rr' : R2} {f g : IV → IV → IH → Res IV} (ho : OpR X (compareOp op) rr) (hf : Snd2 X.K W rr f) (ho' : OpR X (compareOp op') rr') (hg : Snd2 X.K W rr' g) (ha : PE X a (tM X.K W ma)) (hb : PE X b (tM X.K W mb)) (hc : PE X c (tM X.K W mc))
    (hm : lastMarks [op, op'] [b, c] = false := by with_unfolding_all rfl) : PT X (.Compare a [op, op'] [b, c] pos) (tMT X.K W (m_tb (m_chain f g ma mb mc))) := PT.of (pt_chain ho ho' ha hb hc hm) fun σ H Q h => chain_core hf hg (tb_core h)
theorem li_rng3 {tg a b d : Expr} {ml : Env → IH → Res (List IV)} {p pos : Pos} (hg : Gl X "range") (hm : X.mg "range" = none) (ha : PA X [a, b, d] (tMA X.K W ml))
    (hs : starEach [a, b, d] X.env = (false, eval a X.env) :: starEach [b, d] X.env := by rfl) (hpl : (backTo pos (starEach [b, d] X.env)).any (·.1) = false := by rfl) : PI X tg (.Call (.Name "range" p) [a, b, d] [] pos) (tMI X.K W (mi_rng3 ml)) :=
  PI.of (pi_range3 hg hm ha hs hpl) fun σ H Q ⟨r, ih, env, hr, he, q⟩ => tG.imp (tG_bind hr he q) fun u H1 ⟨r1, ih1, v, p, hr1, hv, q1⟩ => by
    dsimp only at q1
    split at q1
    · rename_i i j k
      cases hv with
      | cons v1 t1 =>
        cases t1 with
        | cons v2 t2 =>
          cases t2 with
          | cons v3 t3 =>
            cases t3
            obtain rfl := (show _ = V.int i from v1)
            obtain rfl := (show _ = V.int j from v2)
            obtain rfl := (show _ = V.int k from v3)
            split at q1
            · rename_i hj
              obtain ⟨rfl, hi, hj⟩ := hj
              obtain ⟨h1, h2⟩ := smallI_of hi
              obtain ⟨h3, h4⟩ := smallI_of hj
              exact ⟨i, j, -1, _, rfl, RgC.neg h1 h2 h3 h4, tG_end q1 hr1 ⟨rfl, rfl, rfl⟩⟩
            · exact q1.elim
    · exact q1.elim
end
end L3
/-! L3k: sorted. -/
namespace L3
open PySem L2
/-- y put in behind all that it is not before -/
def insB {α : Type} (lt : α → α → Bool) (y : α) : List α → List α
  | [] => [y]
  | x :: l => if lt y x = true then y :: x :: l else x :: insB lt y l
def isB {α : Type} (lt : α → α → Bool) : List α → List α → List α
  | acc, [] => acc
  | acc, y :: r => isB lt (insB lt y acc) r
section
variable {α : Type} {lt : α → α → Bool}
theorem insB_split (O : SrtO.Swo lt) (y : α) : ∀ {l : List α}, SrtO.Srtd lt l → ∃ M N, l = M ++ N ∧ insB lt y l = M ++ y :: N ∧ (∀ x ∈ M, lt y x = false) ∧ ∀ x ∈ N, lt y x = true
  | [], _ => ⟨[], [], rfl, rfl, (fun _ h => nomatch h), fun _ h => nomatch h⟩
  | x :: l, h => by
    unfold insB
    split
    · rename_i hx
      exact ⟨[], x :: l, rfl, rfl, (fun _ h => nomatch h), O.lt_all h hx⟩
    · rename_i hx
      obtain ⟨M, N, e1, e2, h1, h2⟩ := insB_split O y (List.pairwise_cons.mp h).2
      refine ⟨x :: M, N, by rw [e1]; rfl, by rw [e2]; rfl, fun z hz => ?_, h2⟩
      rcases List.mem_cons.mp hz with e | e
      · rw [e]
        cases hh : lt y x with
        | true => exact absurd hh hx
        | false => rfl
      · exact h1 z e
theorem isB_spec (O : SrtO.Swo lt) : ∀ (r acc pre : List α), SrtO.Srtd lt acc → SrtO.Stb lt acc pre → SrtO.Srtd lt (isB lt acc r) ∧ SrtO.Stb lt (isB lt acc r) (pre ++ r)
  | [], acc, pre, h, s => ⟨h, by rw [List.append_nil]; exact s⟩
  | y :: r, acc, pre, h, s => by
    obtain ⟨M, N, e1, e2, h1, h2⟩ := insB_split O y h
    subst e1
    have k := isB_spec O r (insB lt y (M ++ N)) (pre ++ [y]) (by rw [e2]; exact SrtO.ins_srtd O h h1 h2) (by rw [e2]; exact SrtO.ins_stb O h2 s)
    rw [List.append_assoc] at k
    exact k
theorem isB_all (O : SrtO.Swo lt) (l : List α) : SrtO.Srtd lt (isB lt [] l) ∧ SrtO.Stb lt (isB lt [] l) l := isB_spec O l [] [] List.Pairwise.nil (SrtO.Stb.refl [])
end
theorem Stb.symm {α : Type} {lt : α → α → Bool} {l m : List α} (h : SrtO.Stb lt l m) : SrtO.Stb lt m l := ⟨h.perm.symm, fun x => (h.cls x).symm⟩
/-- the same steps on both sides -/
theorem ins_par {α β : Type} {T : α → β → Prop} {l1 : α → α → Bool} {l2 : β → β → Bool} (hT : ∀ x y u w, T x u → T y w → l1 x y = l2 u w) {y : α} {w : β} (hy : T y w) : ∀ {xs : List α} {us : List β}, Paired T xs us → Paired T (insB l1 y xs) (insB l2 w us)
  | _, _, .nil => .cons hy .nil
  | _, _, .cons (a := x) (b := u) q t => by
    unfold insB
    rw [hT y x w u hy q]
    split
    · exact .cons hy (.cons q t)
    · exact .cons q (ins_par hT hy t)
theorem is_par {α β : Type} {T : α → β → Prop} {l1 : α → α → Bool} {l2 : β → β → Bool} (hT : ∀ x y u w, T x u → T y w → l1 x y = l2 u w) : ∀ {xs : List α} {us : List β} {as : List α} {bs : List β}, Paired T as bs → Paired T xs us → Paired T (isB l1 as xs) (isB l2 bs us)
  | _, _, _, _, h, .nil => h
  | _, _, _, _, h, .cons q t => by
    unfold isB
    exact is_par hT (ins_par hT q h) t
/-! ### ints -/
def isI (ns : List Int) : List Int := isB (fun a b : Int => decide (a < b)) [] ns
theorem swoI : SrtO.Swo (fun a b : Int => decide (a < b)) := ⟨fun x y h => by
    simp only [decide_eq_true_eq, decide_eq_false_iff_not] at *
    omega, fun x y z h1 h2 => by
    simp only [decide_eq_true_eq, decide_eq_false_iff_not] at *
    omega⟩
theorem isI_perm (ns : List Int) : (isI ns).Perm ns := (isB_all swoI ns).2.perm
theorem isI_le (ns : List Int) : (isI ns).Pairwise (· ≤ ·) := ((isB_all swoI ns).1).imp fun h => by
  simp only [decide_eq_false_iff_not] at h
  omega
def f_sorted : List IV → IH → Res IV := f_ints fun ns ih => .ok (.ref ih.length) (ih ++ [.lst ((isI ns).map IV.int)])
theorem Rs.ints (r : List Addr) : ∀ ns : List Int, Rs r (ns.map IV.int) (ns.map V.int)
  | [] => .nil
  | _ :: l => .cons rfl (Rs.ints r l)
section
variable {K : PySem.W.Frag} {W : WX}
theorem s_sorted : SndC K W (rSortedI K) f_sorted := fun r ih H xs us σ Q hr hx q => by
  obtain ⟨a, ns, e, h, q2⟩ := ints_got hr hx q
  refine ⟨a, ns, e, h, fun ns' p hp hle hn => ?_⟩
  have e2 : ns' = isI ns := List.Perm.eq_of_pairwise (le := (· ≤ ·)) (fun a b _ _ h1 h2 => Int.le_antisymm h1 h2) hle (isI_le ns) (hp.trans (isI_perm ns).symm)
  rw [e2]
  exact end_lst q2 hr (Rs.ints r _) hn
end
/-! ### pairs of ints -/
def kI (ih : IH) : IV → Int × Int
  | .ref n => match ih[n]? with
    | some (.tup [.int i, .int j]) => (i, j)
    | _ => (0, 0)
  | _ => (0, 0)
def isPr (ih : IH) : IV → Bool
  | .ref n => match ih[n]? with
    | some (.tup [.int i, .int j]) => true
    | _ => false
  | _ => false
def ltI (ih : IH) (x y : IV) : Bool := SrtO.lexB (kI ih x) (kI ih y)
def f_sortP (xs : List IV) (ih : IH) : Res IV := match xs with
  | [.ref n] => match ih[n]? with
    | some o => if o.isL = true ∧ o.xs.all (isPr ih) = true then .ok (.ref ih.length) (ih ++ [.lst (isB (ltI ih) [] o.xs)]) else .stuck
    | none => .stuck
  | _ => .stuck
def kV (H : Hp) : V → Int × Int
  | .ref a => match H a with
    | some (.tup [.int i, .int j]) => (i, j)
    | _ => (0, 0)
  | _ => (0, 0)
theorem isPr_of {ih : IH} {x : IV} (h : isPr ih x = true) : ∃ n i j, x = .ref n ∧ ih[n]? = some (.tup [.int i, .int j]) := by
  unfold isPr at h
  split at h
  · rename_i n
    split at h
    · rename_i i j e
      exact ⟨n, i, j, rfl, e⟩
    · cases h
  · cases h
section
variable {K : PySem.W.Frag} {W : WX}
theorem pr_rel {r : List Addr} {ih : IH} {H : Hp} (hr : Rel K r ih H) {x : IV} {u : V} (h : R r x u) (hp : isPr ih x = true) : kI ih x = kV H u ∧ ∃ t, u = V.ref t ∧ H t = some (.tup [.int (kV H u).1, .int (kV H u).2]) := by
  obtain ⟨n, i, j, rfl, e⟩ := isPr_of hp
  obtain ⟨a, ea, rfl⟩ := h
  obtain ⟨ys, h1, h2⟩ := hr.get n a _ ea e
  have h3 : ys = [V.int i, V.int j] := by
    cases h2 with
    | cons q1 t =>
      cases t with
      | cons q2 t =>
        cases t
        cases q1
        cases q2
        rfl
  subst h3
  have e1 : kI ih (.ref n) = (i, j) := by
    unfold kI
    dsimp only
    rw [e]
  have e2 : kV H (.ref a) = (i, j) := by
    unfold kV
    dsimp only
    rw [h1]
  rw [e1, e2]
  exact ⟨rfl, a, rfl, h1⟩
theorem s_sortP : SndC K W (rSortedPO K) f_sortP := fun r ih H xs us σ Q hr hx q => by
  unfold f_sortP at q
  split at q
  · rename_i n
    cases hx with
    | cons h1 h2 =>
      cases h2
      obtain ⟨a, ea, rfl⟩ := h1.ref
      split at q
      · rename_i o e1
        split at q
        · rename_i hl
          obtain ⟨ys, h3, h4⟩ := (hr.get n a _ ea e1).l hl.1
          have hall := List.all_eq_true.mp hl.2
          have par : ∀ {zs : List IV} {ws : List V}, (∀ z ∈ zs, isPr ih z = true) → Rs r zs ws → Paired (fun x u => R r x u ∧ isPr ih x = true) zs ws := by
            intro zs ws hz h
            induction h with
            | nil => exact .nil
            | cons q t ihh => exact .cons ⟨q, hz _ List.mem_cons_self⟩ (ihh fun z h => hz z (List.mem_cons_of_mem _ h))
          have P4 := par hall h4
          have mem : ∀ {zs : List IV} {ws : List V}, Paired (fun x u => R r x u ∧ isPr ih x = true) zs ws → ∀ u ∈ ws, ∃ x, R r x u ∧ isPr ih x = true := by
            intro zs ws h
            induction h with
            | nil => intro u h; cases h
            | cons q t ihh =>
              intro u h
              rcases List.mem_cons.mp h with e | e
              · rw [e]; exact ⟨_, q⟩
              · exact ihh u e
          refine ⟨a, ys, kV H, rfl, h3, fun u hu => ?_, fun zs p s1 s2 hn => ?_⟩
          · obtain ⟨x, q1, q2⟩ := mem P4 u hu
            exact (pr_rel hr q1 q2).2
          · obtain ⟨k1, k2⟩ := isB_all (ltP_swo (kV H)) ys
            have e2 : zs = isB (ltP (kV H)) [] ys := SrtO.stb_uniq (ltP_swo (kV H)) s1 k1 (s2.trans (Stb.symm k2))
            rw [e2]
            have P5 := is_par (l1 := ltI ih) (l2 := ltP (kV H)) (fun x y u w h1 h2 => by
              show SrtO.lexB (kI ih x) (kI ih y) = SrtO.lexB (kV H u) (kV H w)
              rw [(pr_rel hr h1.1 h1.2).1, (pr_rel hr h2.1 h2.2).1]) .nil P4
            exact end_lst q hr (Paired.mapP P5 fun _ _ h => h.1) hn
        · exact q.elim
      · exact q.elim
  · exact q.elim
end
end L3
/-! L3l: list(range(a, b)), xs[::-1], x & 1, lists compared. -/
namespace L3
open PySem L2
theorem Rs.reverse {r : List Addr} : ∀ {xs : List IV} {ys : List V}, Rs r xs ys → Rs r xs.reverse ys.reverse
  | _, _, .nil => .nil
  | _, _, .cons q t => by
    rw [List.reverse_cons, List.reverse_cons]
    exact Rs.append (Rs.reverse t) (.cons q .nil)
def f_rev (x : IV) (ih : IH) : Res IV := match x with
  | .ref n => match ih[n]? with
    | some o => if o.isL = true then .ok (.ref ih.length) (ih ++ [.lst o.xs.reverse]) else .stuck
    | none => .stuck
  | _ => .stuck
def rgI (a b : Int) : List IV := (List.range (b - a).toNat).map fun i : Nat => IV.int (a + (i : Int))
instance (a b : Int) : Decidable (RgOk a b) := by unfold RgOk; infer_instance
def f_lrg (xs : List IV) (ih : IH) : Res IV := match xs with
  | [.int i, .int j] => if RgOk i j then .ok (.ref ih.length) (ih ++ [.lst (rgI i j)]) else .stuck
  | _ => .stuck
def f_odd (x y : IV) (ih : IH) : Res IV := match x, y with
  | .int i, .int j => if 0 ≤ i ∧ j = 1 then .ok (.int (i % 2)) ih else .stuck
  | _, _ => .stuck
open Classical in
noncomputable def f_gtD (x y : IV) (ih : IH) : Res IV :=
  if h : ∃ p : PyData × PyData, Is ih x p.1 ∧ Is ih y p.2 ∧ PySem.W.alike p.1 p.2 = true ∧ p.1 ≠ .none ∧ p.1.depth ≤ 64 then .ok (.bl (PySem.W.dataLt h.choose.2 h.choose.1)) ih else .stuck
theorem f_gtD_of {x y : IV} {ih : IH} {d e : PyData} (h1 : Is ih x d) (h2 : Is ih y e) (s1 : PySem.W.alike d e = true) (s2 : d ≠ .none) (s3 : d.depth ≤ 64) : f_gtD x y ih = .ok (.bl (PySem.W.dataLt e d)) ih := by
  unfold f_gtD
  have h : ∃ p : PyData × PyData, Is ih x p.1 ∧ Is ih y p.2 ∧ PySem.W.alike p.1 p.2 = true ∧ p.1 ≠ .none ∧ p.1.depth ≤ 64 := ⟨(d, e), h1, h2, s1, s2, s3⟩
  rw [dif_pos h]
  have k := h.choose_spec
  rw [Is.uniq _ _ _ k.1 h1, Is.uniq _ _ _ k.2.1 h2]
def rGtD (K : PySem.W.Frag) : R2 := fun x y H Q => ∃ d e, Dp K H x d ∧ Dp K H y e ∧ PySem.W.alike d e = true ∧ d ≠ .none ∧ d.depth ≤ 64 ∧ Q (.bl (PySem.W.dataLt e d)) H
section
variable {X : Cx} {W : WX} {a b : Expr} {ma mb : Env → IH → Res IV} {pos : Pos}
theorem op_gtD (hu : X.A.units + 64 < cLine) : OpR X (compareOp .Gt) (rGtD X.K) := by
  intro pins s σ H x y v u Q I rx ry h
  obtain ⟨d, e, hd, he, sd, se, sz, q⟩ := h
  obtain ⟨as, r1⟩ := Dp.reads I d x v hd rx
  obtain ⟨bs, r2⟩ := Dp.reads I e y u he ry
  exact PySem.W.gt_data r1 r2 sd se (by have := Nat.min_le_left d.depth e.depth; omega) ⟨.bl _, H, I, rfl, q⟩
theorem s_gtD {K : PySem.W.Frag} {W : WX} : Snd2 K W (rGtD K) f_gtD := by
  intro r ih H x y u w σ Q hr hx hy q
  unfold f_gtD at q
  split at q
  · rename_i h
    have k := h.choose_spec
    exact ⟨_, _, Is.dp hr _ _ _ k.1 hx, Is.dp hr _ _ _ k.2.1 hy, k.2.2.1, k.2.2.2.1, k.2.2.2.2, tG_end q hr rfl⟩
  · exact q.elim
theorem s_odd {K : PySem.W.Frag} {W : WX} : Snd2 K W (fun x y H Q => ∃ n : Nat, x = .int (n : Int) ∧ y = .int 1 ∧ Q (.int ((n % 2 : Nat) : Int)) H) f_odd := by
  intro r ih H x y u w σ Q hr hx hy q
  unfold f_odd at q
  split at q
  · rename_i i j
    split at q
    · rename_i hh
      obtain ⟨n, rfl⟩ := Int.eq_ofNat_of_zero_le hh.1
      obtain rfl := hh.2
      cases hx
      cases hy
      refine ⟨n, rfl, rfl, ?_⟩
      exact tG_end q hr (by show V.int _ = V.int _; rw [Int.natCast_emod]; rfl)
    · exact q.elim
  · exact q.elim
theorem lm_rev {k : Nat} {p1 p2 p3 : Pos} (ha : PE X a (tM X.K W ma)) : PE X (.Subscript a (.Slice none none (some (.UnaryOp .USub (.Constant (.int 1) k p1) p2)) p3) pos) (tM X.K W (m_un f_rev ma)) :=
  PE.of (pe_revL ha) fun σ H Q ⟨r, ih, env, hr, he, q⟩ => tG.imp (tG_bind hr he q) fun u H1 ⟨r1, ih1, v, p, hr1, hv, q1⟩ => by
    replace q1 : PGen R X.K W σ r1 (f_rev v ih1) Q := q1
    unfold f_rev at q1
    split at q1
    · rename_i n
      obtain ⟨c, ec, rfl⟩ := hv.ref
      split at q1
      · rename_i o e1
        split at q1
        · rename_i hl
          obtain ⟨ys, h3, h4⟩ := (hr1.get n c _ ec e1).l hl
          exact ⟨c, ys, rfl, h3, fun l hp => end_lst q1 hr1 h4.reverse hp⟩
        · exact q1.elim
      · exact q1.elim
    · exact q1.elim
theorem app2 {f : List IV → IH → Res IV} {env : Env} {ih : IH} : m_app f (m_cons ma (m_cons mb m_nil)) env ih = (ma env ih).bind fun x ih1 => (mb env ih1).bind fun y ih2 => f [x, y] ih2 := by
  unfold m_app m_cons m_nil
  cases ma env ih with
  | ok x ih1 =>
    dsimp only [Res.bind]
    cases mb env ih1 <;> rfl
  | exc c ih1 => rfl
  | stuck => rfl
theorem Rs.rg (r : List Addr) (i j : Int) : Rs r (rgI i j) (rgV i j) := by
  unfold rgI rgV
  generalize List.range (j - i).toNat = l
  induction l with
  | nil => exact .nil
  | cons k l ihl => exact .cons rfl ihl
theorem lm_lrg {p q qos : Pos} (hc : X.calm = true) (h1 : Gl X "list") (h2 : X.mg "list" = none) (h3 : Gl X "range") (h4 : X.mg "range" = none) (ha : PE X a (tM X.K W ma)) (hb : PE X b (tM X.K W mb))
    (na : starEach [a, b] X.env = (false, eval a X.env) :: starEach [b] X.env := by rfl) (nb : starEach [b] X.env = (false, eval b X.env) :: starEach [] X.env := by rfl) (hp : (backTo qos (starEach [b] X.env)).any (·.1) = false := by rfl)
    (nc : starEach [.Call (.Name "range" q) [a, b] [] qos] X.env = (false, eval (.Call (.Name "range" q) [a, b] [] qos) X.env) :: starEach [] X.env := by rfl) :
    PE X (.Call (.Name "list" p) [.Call (.Name "range" q) [a, b] [] qos] [] pos) (tM X.K W (m_app f_lrg (m_cons ma (m_cons mb m_nil)))) :=
  PE.of (pe_listRg hc h1 h2 (prg_2 h3 h4 ha hb na nb hp) nc) fun σ H Q ⟨r, ih, env, hr, he, q⟩ => by
    rw [app2] at q
    exact tG.imp (tG_bind hr he q) fun u H1 ⟨r1, ih1, v, p, hr1, hv, q1⟩ => tG.imp (tG_bind hr1 (he.mono p) q1) fun w H2 ⟨r2, ih2, y, p2, hr2, hy, q2⟩ => by
      have hv2 := hv.mono p2
      replace q2 : PGen R X.K W σ r2 (f_lrg [v, y] ih2) Q := q2
      unfold f_lrg at q2
      split at q2
      · rename_i i j e
        cases e
        split at q2
        · rename_i ok
          cases hv2
          cases hy
          exact ⟨i, j, rfl, rfl, ok, fun l hp => end_lst q2 hr2 (Rs.rg _ i j) hp⟩
        · exact q2.elim
      · exact q2.elim
end
end L3
/-! L3p: a def called by its parameters' names alone. -/
namespace L3
open PySem PySem.Spec PyProof.Rows L2
/-- g puts the keywords' values, as they are written, in the parameters' order -/
structure DfK (P : Program) (w : World) (K : PySem.W.Frag) (mg : Str → Option Value) (base : Heap) (k : Nat) (x : Str) (n : Nat) (ks : List Str) (g : {α : Type} → List α → List α) (m : List IV → IH → Res IV) : Prop where
  par : ∀ {α β : Type} {T : α → β → Prop} {xs : List α} {ys : List β}, Paired T xs ys → Paired T (g xs) (g ys)
  ex : ∃ (f : Addr) (fd : FuncData) (ps : List Str), ps.length = n ∧ mg x = some (.ref f) ∧ PySem.W.keepIn K (.ref f) = true ∧ FnOk P w K mg base (L2.CX P w) k f fd ps (spM K n m) ∧ KBn K fd ps 0 ks (fun _ ws => g ws) (fun _ zs => g zs)
def f_callK (n l : Nat) (g : {α : Type} → List α → List α) (m : List IV → IH → Res IV) (xs : List IV) (ih : IH) : Res IV := if xs.length = l ∧ (g xs).length = n then m (g xs) ih else .stuck
section
variable {X : Cx} {W : WX} {k n : Nat} {x : Str} {ks : List Str} {g : {α : Type} → List α → List α} {m : List IV → IH → Res IV} {kws : List Keyword} {p pos : Pos} {ma : Env → IH → Res (List IV)}
theorem lk_nil : PK X [] (tMA X.K W m_nil) := ⟨fun pos pins s σ H Q I ⟨r, ih, env, hr, he, q⟩ => pk_nil.run pos pins s σ H Q I (tG_end q hr .nil)⟩
theorem lk_cons {e : Expr} {nm : Option Str} {kpos : Pos} {mx : Env → IH → Res IV} {mr : Env → IH → Res (List IV)} (hx : PE X e (tM X.K W mx)) (hr : PK X kws (tMA X.K W mr)) : PK X (⟨nm, e, kpos⟩ :: kws) (tMA X.K W (m_cons mx mr)) :=
  ⟨fun pos pins s σ H Q I ⟨r, ih, env, h, he, q⟩ => (pk_cons hx hr).run pos pins s σ H Q I (tG.imp (tG_bind h he q) fun u H1 ⟨r1, ih1, v, p1, hr1, hv, q1⟩ => tG.imp (tG_bind hr1 (he.mono p1) q1) fun us H2 ⟨r2, ih2, vs, p2, hr2, hvs, q2⟩ => tG_end q2 hr2 (.cons (hv.mono p2) hvs))⟩
theorem run_fnK {CX : CXT} {f : Addr} {fd : FuncData} {ps : List Str} {sp : Sp} {pins : List (Addr × Obj)} {σ : L2.St} {H : Hp} {s : Shared} {Q : VK} {ws : List Value} {zs : List V} {E : L2.St → XK} {gl : List Value → List Value → List Value} {gV : List V → List V → List V} (F : FnOk X.prog X.w X.K X.mg X.base CX k f fd ps sp) (hr : Room k X.A) (hb : KBn X.K fd ps 0 ks gl gV)
    (hx : PassesAt CX X σ (E σ)) (I : L2.Inv X pins σ H s) (rz : Vals zs ws) (l2 : zs.length = ks.length) (h : sp (gV [] zs) H Q (E σ)) : wpAny (model X.prog X.w) X.A (call (.ref f) [] (ks.zip ws)) (EP X pins σ Q) X.xe s := by
  have r2 := hb.rel (vs := []) (us := []) .nil rz
  refine wpAny_call (codeAny_mono (F.run X.A X.stack s H ⟨[], ks.zip ws⟩ (gl [] ws) (gV [] zs) Q (E σ) hr I.env0 (hb.to s [] ws I.kIn rfl (rz.length.symm.trans l2)) r2 h) fun r s' hq => ?_)
  cases r with
  | error e => exact hx pins H s e s' I hq
  | ok fl =>
    cases fl with
    | ret u => exact I.after hq
    | next => exact False.elim hq
    | brk => exact False.elim hq
    | cont => exact False.elim hq
theorem lm_callK (D : DfK X.prog X.w X.K X.mg X.base k x n ks g m) (hr : Room k X.A) (hg : Gl X x) (tk : Takes X W) (ha : PK X kws (tMA X.K W ma)) (hall : (backToKw pos (keywordEach kws X.env)).all (·.1.isSome) = true := by rfl) (hks : (backToKw pos (keywordEach kws X.env)).filterMap (·.1) = ks := by rfl)
    (hdb : (x == ("__debug__" : Str)) = false := by decide) (hpl : ((backTo pos (starEach [] X.env)).any (·.1) || (backToKw pos (keywordEach kws X.env)).any (·.1.isNone)) = false := by rfl) :
    PE X (.Call (.Name x p) [] kws pos) (tM X.K W (m_app (f_callK n ks.length g m) ma)) := by
  obtain ⟨f, fd, ps, hn, hm, hk, F, hB⟩ := D.ex
  refine ⟨fun pins s σ H Q I ⟨r, ih, env, hrl, he, q⟩ => ?_⟩
  refine wpAny_Call_Name_kw (ld_glob I hg hm ?_ hdb)
  refine PySem.W.callWith_KW0 (h₀ := X.base) I.ok.mod.kin hk hall (thn (ha.run pos pins s σ H _ I (tG_bind hrl he q)) fun ws s2 ⟨zs, H2, I2, rz, r1, ih1, v, p1, hr1, hv, q1⟩ => ⟨I2.kIn, ?_⟩) hpl
  rw [hks]
  dsimp only at q1
  unfold f_callK at q1
  split at q1
  · rename_i hl
    refine run_fnK F hr hB (passAt tk σ) I2 rz (hv.length.symm.trans hl.1) ⟨r1, ih1, g v, hl.2, hr1, D.par hv, ?_⟩
    cases e : m (g v) ih1 with
    | ok y ih2 => rw [e] at q1; exact q1
    | exc c ih2 => rw [e] at q1; exact q1
    | stuck => rw [e] at q1; exact q1
  · exact q1.elim
end
/-- four parameters, written the other way about -/
def rev4 : {α : Type} → List α → List α
  | _, [a, b, c, d] => [d, c, b, a]
  | _, l => l
theorem rev4_par {α β : Type} {T : α → β → Prop} {xs : List α} {ys : List β} (h : Paired T xs ys) : Paired T (rev4 xs) (rev4 ys) := by
  cases h with
  | nil => exact .nil
  | cons a h =>
    cases h with
    | nil => exact .cons a .nil
    | cons b h =>
      cases h with
      | nil => exact .cons a (.cons b .nil)
      | cons c h =>
        cases h with
        | nil => exact .cons a (.cons b (.cons c .nil))
        | cons d h =>
          cases h with
          | nil => exact .cons d (.cons c (.cons b (.cons a .nil)))
          | cons e h => exact .cons a (.cons b (.cons c (.cons d (.cons e h))))
section
variable {P : Program} {w : World} {K : PySem.W.Frag} {mg : Str → Option Value} {base : Heap} {k : Nat} {x qual : Str} {st : Stmt} {f : Addr} {fd : FuncData} {N ps ks : List Str} {mb : Env → IH → RS}
theorem dfK4 (F : FunD K x qual (defArgs st) (defBody st) (defScope st) [] [] f fd) (S : FnScope N ps (defScope st)) (hm : mg x = some (.ref f)) (h4 : ks.length = 4)
    (h : ∀ (kV doc pm : Value) (an : Option Addr) (cdv ct : Value) (a b c d : Value), bindArgs (PySem.W.fnOf x qual (defArgs st) (defBody st) (defScope st) .none kV doc pm an cdv ct) ⟨[], ks.zip [a, b, c, d]⟩ = pure (ps.zip [d, c, b, a]))
    (hbody : BodyOk P w K mg base k N qual st f mb) : DfK P w K mg base (k + 1) x ps.length ks rev4 (defRun N.length mb) := by
  refine ⟨fun h => rev4_par h, f, fd, ps, rfl, hm, F.kp, df_fn2 F S hbody, ⟨fun s us ws _ h1 h2 => ?_, fun _ r2 => rev4_par r2⟩⟩
  obtain ⟨oc, od, dV, kV, doc, pm, an, cdv, ct, osl, rfl, lk, hcd, hD, hK⟩ := F.ex
  rw [h4] at h2
  match us, ws, h1, h2 with
  | [], [a, b, c, d], _, _ =>
    rcases hD with ⟨_, rfl⟩ | ⟨e, _⟩
    · exact .of_eq (h kV doc pm an cdv ct a b c d)
    · exact absurd rfl e
end
end L3
/-! L4: how mirrors are run; sizes of ints. -/
namespace L3
open PySem PySem.Spec PyProof.Rows L2

theorem startI_cons (N : Nat) (a : IV) (r : List IV) : startI (N + 1) (a :: r) = some a :: startI N r := by
  unfold startI
  rw [List.map_cons, List.length_cons, Nat.add_sub_add_right]
  rfl
theorem startI_nil (N : Nat) : startI N [] = List.replicate N none := rfl
theorem rep_succ (N : Nat) : List.replicate (N + 1) (none : Option IV) = none :: List.replicate N none := rfl
theorem rep_zero : List.replicate 0 (none : Option IV) = [] := rfl

/-! ### operations, applied -/
section
variable {ih : IH} {i j : Int} {n m : Nat} {o : MO} {v : IV}
theorem a_int : f_int [.int i] ih = .ok (.int i) ih := rfl
theorem a_add : f_add (.int i) (.int j) ih = .ok (.int (i + j)) ih := rfl
theorem a_addI : f_addI (.int i) (.int j) ih = .ok (.int (i + j)) ih := rfl
theorem a_sub : f_sub (.int i) (.int j) ih = .ok (.int (i - j)) ih := rfl
theorem a_neg : f_neg (.int i) ih = .ok (.int (-i)) ih := rfl
theorem a_lt : f_lt (.int i) (.int j) ih = .ok (.bl (decide (i < j))) ih := rfl
theorem a_le : f_le (.int i) (.int j) ih = .ok (.bl (decide (i ≤ j))) ih := rfl
theorem a_gt : f_gt (.int i) (.int j) ih = .ok (.bl (decide (j < i))) ih := rfl
theorem a_ge : f_ge (.int i) (.int j) ih = .ok (.bl (decide (j ≤ i))) ih := rfl
theorem a_max2 : f_max2 [.int i, .int j] ih = .ok (.int (if j > i then j else i)) ih := rfl
theorem a_min2 : f_min2 [.int i, .int j] ih = .ok (.int (if j < i then j else i)) ih := rfl
theorem a_abs : f_abs [.int i] ih = .ok (.int (if i < 0 then -i else i)) ih := rfl
theorem a_mul (h : cMul i j = true) : f_mulA (.int i) (.int j) ih = .ok (.int (i * j)) ih := by
  show (if cMul i j = true then _ else _) = _
  rw [if_pos h]
theorem a_mulI (h : cMul i j = true) : f_mul (.int i) (.int j) ih = .ok (.int (i * j)) ih := by
  show (if cMul i j = true then _ else _) = _
  rw [if_pos h]
theorem a_fdiv (h : cDiv i j = true) : f_fdiv (.int i) (.int j) ih = .ok (.int (i / j)) ih := by
  show (if cDiv i j = true then _ else _) = _
  rw [if_pos h]
theorem a_mod (h : 0 < j) : f_mod (.int i) (.int j) ih = .ok (.int (i % j)) ih := by
  show (if cMod i j = true then _ else _) = _
  exact if_pos (decide_eq_true h)
theorem a_shl (h : cShl i j = true) : f_shl (.int i) (.int j) ih = .ok (.int (i * 2 ^ j.toNat)) ih := by
  show (if cShl i j = true then _ else _) = _
  rw [if_pos h]
theorem a_shr (h : 0 ≤ j) : f_shr (.int i) (.int j) ih = .ok (.int (i / 2 ^ j.toNat)) ih := by
  show (if cShr i j = true then _ else _) = _
  exact if_pos (decide_eq_true h)
theorem a_pow (h : cPow i j = true) : f_pow (.int i) (.int j) ih = .ok (.int (i ^ j.toNat)) ih := by
  show (if cPow i j = true then _ else _) = _
  rw [if_pos h]
theorem a_len (h : ih[n]? = some o) (hd : o.isS = true := by rfl) : f_len [.ref n] ih = .ok (.int o.xs.length) ih := by
  unfold f_len
  dsimp only
  rw [h]
  cases o with
  | dct => cases hd
  | _ => rfl
theorem a_ix (h : ih[n]? = some o) (hv : atI o.xs i = some v) : f_ix (.ref n) (.int i) ih = .ok v ih := by
  unfold f_ix
  dsimp only
  rw [h]
  dsimp only
  rw [hv]
theorem a_isN {x : IV} : f_isN x .non ih = .ok (.bl (decide (x = .non))) ih := by
  unfold f_isN
  rw [if_pos rfl]
theorem a_notN {x : IV} : f_notN x .non ih = .ok (.bl (!decide (x = .non))) ih := by
  unfold f_notN
  rw [if_pos rfl]
theorem a_lst {xs : List IV} (h : xs.length ≤ 100000) : f_lst xs ih = .ok (.ref ih.length) (ih ++ [.lst xs]) := by
  unfold f_lst
  rw [if_pos h]
theorem a_tup {xs : List IV} (h : xs.length ≤ 100000) : f_tup xs ih = .ok (.ref ih.length) (ih ++ [.tup xs]) := by
  unfold f_tup
  rw [if_pos h]
theorem a_list (h : ih[n]? = some o) (hd : o.isS = true := by rfl) : f_list [.ref n] ih = .ok (.ref ih.length) (ih ++ [.lst o.xs]) := by
  unfold f_list
  dsimp only
  rw [h]
  cases o with
  | dct => cases hd
  | _ => rfl
theorem a_append {xs : List IV} {y : IV} (h : ih[n]? = some (.lst xs)) (hl : xs.length < 100000) : f_append (.ref n) [y] ih = .ok .non (ih.set n (.lst (xs ++ [y]))) := by
  unfold f_append
  dsimp only
  rw [h]
  dsimp only
  rw [if_pos hl]
theorem a_isLst (h : ih[n]? = some o) (hl : o.isL = true) : isLst (.ref n) ih = true := by
  unfold isLst
  dsimp only
  rw [h]
  exact hl
theorem a_setL {xs : List IV} {y : IV} {k : Nat} (h : ih[n]? = some (.lst xs)) (hk : ixN xs.length i = some k) : f_setL (.ref n) (.int i) y ih = some (ih.set n (.lst (xs.set k y))) := by
  unfold f_setL
  dsimp only
  rw [h]
  dsimp only
  rw [hk]
theorem a_call {xs ds : List IV} {f : List IV → IH → Res IV} (h : (xs ++ ds).length = n) : f_call n ds f xs ih = f (xs ++ ds) ih := by
  unfold f_call
  rw [if_pos h]
theorem atI_ok {α : Type} {xs : List α} {k : Nat} {v : α} (hi : i = (k : Int)) (h : xs[k]? = some v) : atI xs i = some v := by
  rw [hi]
  exact atI_nat h
end
theorem atI_nn {α : Type} (xs : List α) (k : Nat) : atI xs (k : Int) = xs[k]? := by
  unfold atI ixN
  rw [if_pos (Int.natCast_nonneg k)]
  by_cases h : k < xs.length
  · rw [if_pos (by omega)]
    rfl
  · rw [if_neg (by omega), List.getElem?_eq_none (by omega)]
    rfl
theorem atI_0 {α : Type} (xs : List α) : atI xs 0 = xs[0]? := atI_nn xs 0
theorem atI_1 {α : Type} (xs : List α) : atI xs 1 = xs[1]? := atI_nn xs 1
theorem atI_2 {α : Type} (xs : List α) : atI xs 2 = xs[2]? := atI_nn xs 2
theorem atI_3 {α : Type} (xs : List α) : atI xs 3 = xs[3]? := atI_nn xs 3
theorem atI_4 {α : Type} (xs : List α) : atI xs 4 = xs[4]? := atI_nn xs 4
theorem atI_5 {α : Type} (xs : List α) : atI xs 5 = xs[5]? := atI_nn xs 5
theorem atI_6 {α : Type} (xs : List α) : atI xs 6 = xs[6]? := atI_nn xs 6
theorem atI_7 {α : Type} (xs : List α) : atI xs 7 = xs[7]? := atI_nn xs 7
theorem atI_8 {α : Type} (xs : List α) : atI xs 8 = xs[8]? := atI_nn xs 8
theorem atI_9 {α : Type} (xs : List α) : atI xs 9 = xs[9]? := atI_nn xs 9
theorem atI_10 {α : Type} (xs : List α) : atI xs 10 = xs[10]? := atI_nn xs 10
theorem atI_11 {α : Type} (xs : List α) : atI xs 11 = xs[11]? := atI_nn xs 11
theorem atI_12 {α : Type} (xs : List α) : atI xs 12 = xs[12]? := atI_nn xs 12
theorem ixN_30 : ixN 3 0 = some 0 := rfl
theorem ixN_31 : ixN 3 1 = some 1 := rfl
theorem ixN_32 : ixN 3 2 = some 2 := rfl
theorem xs_lst (xs : List IV) : (MO.lst xs).xs = xs := rfl
theorem xs_tup (xs : List IV) : (MO.tup xs).xs = xs := rfl
theorem xs_ro (xs : List IV) : (MO.ro xs).xs = xs := rfl
theorem xs_rot (xs : List IV) : (MO.rot xs).xs = xs := rfl
theorem isL_lst (xs : List IV) : (MO.lst xs).isL = true := rfl
theorem isL_tup (xs : List IV) : (MO.tup xs).isL = false := rfl
theorem isL_ro (xs : List IV) : (MO.ro xs).isL = true := rfl
theorem isT_tup (xs : List IV) : (MO.tup xs).isT = true := rfl
theorem isT_rot (xs : List IV) : (MO.rot xs).isT = true := rfl
theorem isL_rot (xs : List IV) : (MO.rot xs).isL = false := rfl
/-! ### sizes of ints -/
/-- an int of at most n bits -/
def B (n : Nat) (i : Int) : Prop := i.natAbs < 2 ^ n
section
variable {i j : Int} {n m k : Nat}
theorem B.mono (h : B n i) (e : n ≤ m) : B m i := Nat.lt_of_lt_of_le h (Nat.pow_le_pow_right (by decide) e)
theorem B.ib (h : B n i) : ibits i ≤ n := PyProof.Rows.intBits_le h
theorem B.of_ib (h : ibits i ≤ n) : B n i := by
  unfold ibits Builtin.Int.intBits at h
  split at h
  · rename_i h0
    have : i = 0 := by simpa using h0
    subst this
    exact Nat.two_pow_pos n
  · exact Nat.lt_of_lt_of_le Nat.lt_log2_self (Nat.pow_le_pow_right (by decide) h)
theorem B.add (h : B n i) (g : B n j) : B (n + 1) (i + j) := by
  unfold B at *
  rw [Nat.pow_succ]
  omega
theorem B.sub (h : B n i) (g : B n j) : B (n + 1) (i - j) := by
  unfold B at *
  rw [Nat.pow_succ]
  omega
theorem B.neg (h : B n i) : B n (-i) := by
  unfold B at *
  rw [Int.natAbs_neg]
  exact h
theorem B.mul (h : B n i) (g : B m j) : B (n + m) (i * j) := by
  unfold B at *
  rw [Int.natAbs_mul, Nat.pow_add]
  exact Nat.mul_lt_mul'' h g
theorem B.div (h : B n i) (g : 0 < j) : B n (i / j) := by
  unfold B at *
  have : (i / j).natAbs ≤ i.natAbs := by
    rcases Int.le_total 0 i with hi | hi
    · have h1 := Int.ediv_nonneg hi (Int.le_of_lt g)
      have h2 := Int.ediv_le_self j hi
      omega
    · have h1 : i / j ≤ 0 := by
        have := Int.ediv_le_ediv g hi
        rw [Int.zero_ediv] at this
        exact this
      have h2 : i ≤ i / j := by
        rw [Int.le_ediv_iff_mul_le g]
        have : i * j ≤ i * 1 := Int.mul_le_mul_of_nonpos_left hi (by omega)
        omega
      omega
  omega
theorem B.mod (g : 0 < j) (h : B n j) : B n (i % j) := by
  unfold B at *
  have h1 := Int.emod_nonneg i (Int.ne_of_gt g)
  have h2 := Int.emod_lt_of_pos i g
  omega
theorem B.le (h0 : 0 ≤ i) (h : i ≤ j) (g : B n j) : B n i := by
  unfold B at *
  omega
theorem B.lt (h0 : 0 ≤ i) (h : i < 2 ^ n) : B n i := by
  unfold B
  have e : ((2 ^ n : Nat) : Int) = 2 ^ n := by rw [Int.natCast_pow]; rfl
  omega
theorem B.cmul (h : B n i) (g : B m j) (e : n + m ≤ 134217728) : cMul i j = true := by
  have := h.ib
  have := g.ib
  exact decide_eq_true (by omega)
theorem cDiv_of (g : 0 < j) (h : B n j) (h0 : 0 < n) (e : n ≤ 9000) : cDiv i j = true := by
  unfold cDiv
  rw [Bool.and_eq_true]
  exact ⟨decide_eq_true g, decide_eq_true (Nat.lt_of_lt_of_le (PySem.Flt.log2_lt_of h0 h) e)⟩
theorem cShl_of (h : B n i) (e : n + k ≤ 134217728) : cShl i (k : Int) = true := by
  have := h.ib
  unfold cShl
  rw [Bool.and_eq_true]
  exact ⟨decide_eq_true (by omega), decide_eq_true (by omega)⟩
end

/-! ### heaps that grow -/
def Ext (a b : IH) : Prop := ∀ (n : Nat) (o : MO), a[n]? = some o → b[n]? = some o
theorem Ext.refl (a : IH) : Ext a a := fun _ _ h => h
theorem Ext.trans {a b d : IH} (h : Ext a b) (k : Ext b d) : Ext a d := fun n o e => k n o (h n o e)
theorem Ext.app (a b : IH) : Ext a (a ++ b) := fun n o e => by
  rw [List.getElem?_append_left (List.getElem?_eq_some_iff.mp e).1]
  exact e
/-- all objects but the one at p stay -/
def ExtP (p : Nat) (a b : IH) : Prop := ∀ (n : Nat) (o : MO), n ≠ p → a[n]? = some o → b[n]? = some o
theorem ExtP.refl (p : Nat) (a : IH) : ExtP p a a := fun _ _ _ h => h
theorem ExtP.trans {p : Nat} {a b d : IH} (h : ExtP p a b) (k : ExtP p b d) : ExtP p a d := fun n o hn e => k n o hn (h n o hn e)
theorem Ext.p {a b : IH} (h : Ext a b) (p : Nat) : ExtP p a b := fun n o _ e => h n o e
theorem ExtP.set (p : Nat) (a : IH) (o : MO) : ExtP p a (a.set p o) := fun n u hn e => by
  rw [List.getElem?_set_ne (Ne.symm hn)]
  exact e
theorem get_new (a : IH) (o : MO) : (a ++ [o])[a.length]? = some o := by
  rw [List.getElem?_append_right (Nat.le_refl _), Nat.sub_self]
  rfl
theorem get_set {a : IH} {p : Nat} {o u : MO} (h : a[p]? = some u) : (a.set p o)[p]? = some o := List.getElem?_set_self (List.getElem?_eq_some_iff.mp h).1
theorem lt_of_get {a : IH} {p : Nat} {u : MO} (h : a[p]? = some u) : p < a.length := (List.getElem?_eq_some_iff.mp h).1
end L3
/-! L6: loops and comprehensions of mirrors. -/
namespace L3
open PySem PySem.Spec PyProof.Rows L2

/-! ### for -/
/-- a loop whose turns all go on -/
theorem forGo_ind {s : Src} {g : IV → Env → IH → Option Env} {mb : Env → IH → RS} (k : Nat) (P : Nat → Env → IH → Prop)
    (turn : ∀ i env ih, i < k → P i env ih → ∃ v ih1 env1 env2 ih2, s.turn i ih = .item v ih1 ∧ g v env ih1 = some env1 ∧ mb env1 ih1 = .ok (.next env2) ih2 ∧ P (i + 1) env2 ih2)
    (stop : ∀ env ih, P k env ih → s.turn k ih = .stop) :
    ∀ (f i : Nat) (env : Env) (ih : IH), i ≤ k → k - i < f → P i env ih → ∃ env' ih', forGo s g mb f i env ih = .ok (.next env') ih' ∧ P k env' ih' := by
  intro f
  induction f with
  | zero => intro i env ih h1 h2; omega
  | succ f ihf =>
    intro i env ih h1 h2 hp
    unfold forGo
    by_cases hk : i = k
    · subst hk
      rw [stop env ih hp]
      exact ⟨env, ih, rfl, hp⟩
    · obtain ⟨v, ih1, env1, env2, ih2, t1, t2, t3, t4⟩ := turn i env ih (by omega) hp
      rw [t1]
      dsimp only
      rw [t2]
      dsimp only
      rw [t3]
      exact ihf (i + 1) env2 ih2 (by omega) (by omega) t4
/-- a loop that may hand back -/
theorem forGo_ret {s : Src} {g : IV → Env → IH → Option Env} {mb : Env → IH → RS} (k : Nat) (P : Nat → Env → IH → Prop) (Z : IV → IH → Prop)
    (turn : ∀ i env ih, i < k → P i env ih → ∃ v ih1 env1, s.turn i ih = .item v ih1 ∧ g v env ih1 = some env1 ∧ ((∃ env2 ih2, mb env1 ih1 = .ok (.next env2) ih2 ∧ P (i + 1) env2 ih2) ∨ ∃ u ih2, mb env1 ih1 = .ok (.ret u) ih2 ∧ Z u ih2))
    (stop : ∀ env ih, P k env ih → s.turn k ih = .stop) :
    ∀ (f i : Nat) (env : Env) (ih : IH), i ≤ k → k - i < f → P i env ih → (∃ env' ih', forGo s g mb f i env ih = .ok (.next env') ih' ∧ P k env' ih') ∨ ∃ u ih', forGo s g mb f i env ih = .ok (.ret u) ih' ∧ Z u ih' := by
  intro f
  induction f with
  | zero => intro i env ih h1 h2; omega
  | succ f ihf =>
    intro i env ih h1 h2 hp
    unfold forGo
    by_cases hk : i = k
    · subst hk
      rw [stop env ih hp]
      exact .inl ⟨env, ih, rfl, hp⟩
    · obtain ⟨v, ih1, env1, t1, t2, t3⟩ := turn i env ih (by omega) hp
      rw [t1]
      dsimp only
      rw [t2]
      dsimp only
      rcases t3 with ⟨env2, ih2, t3, t4⟩ | ⟨u, ih2, t3, t4⟩
      · rw [t3]
        exact ihf (i + 1) env2 ih2 (by omega) (by omega) t4
      · rw [t3]
        exact .inr ⟨u, ih2, rfl, t4⟩
theorem turn_rng {lo d : Int} {k i : Nat} {ih : IH} (h : i < k) : (Src.rng lo d k).turn i ih = .item (.int (lo + (i : Int) * d)) ih := if_pos h
theorem stop_rng {lo d : Int} {k : Nat} {ih : IH} : (Src.rng lo d k).turn k ih = .stop := if_neg (Nat.lt_irrefl k)
theorem lAt_of {ih : IH} {n : Nat} {o : MO} (h : ih[n]? = some o) (hl : o.isL = true) : lAt ih n true = some o.xs := by
  unfold lAt
  rw [h]
  exact if_pos hl
theorem turn_lst {ih : IH} {n i : Nat} {o : MO} {v : IV} (h : ih[n]? = some o) (hl : o.isL = true) (hv : o.xs[i]? = some v) : (Src.lst n).turn i ih = .item v ih := by
  unfold Src.turn
  dsimp only
  rw [lAt_of h hl]
  dsimp only
  rw [hv]
theorem stop_lst {ih : IH} {n : Nat} {o : MO} (h : ih[n]? = some o) (hl : o.isL = true) : (Src.lst n).turn o.xs.length ih = .stop := by
  unfold Src.turn
  dsimp only
  rw [lAt_of h hl]
  dsimp only
  rw [List.getElem?_eq_none (Nat.le_refl _)]
theorem turn_enm {ih : IH} {n i : Nat} {o : MO} {v : IV} (h : ih[n]? = some o) (hl : o.isL = true) (hv : o.xs[i]? = some v) : (Src.enm n).turn i ih = .item (.ref ih.length) (ih ++ [.tup [.int (i : Int), v]]) := by
  unfold Src.turn
  dsimp only
  rw [lAt_of h hl]
  dsimp only
  rw [hv]
theorem stop_enm {ih : IH} {n : Nat} {o : MO} (h : ih[n]? = some o) (hl : o.isL = true) : (Src.enm n).turn o.xs.length ih = .stop := by
  unfold Src.turn
  dsimp only
  rw [lAt_of h hl]
  dsimp only
  rw [List.getElem?_eq_none (Nat.le_refl _)]
theorem turn_zip {ih : IH} {n m i : Nat} {o u : MO} {v w : IV} (h : ih[n]? = some o) (hl : o.isL = true) (hv : o.xs[i]? = some v) (h2 : ih[m]? = some u) (hl2 : u.isL = true) (hw : u.xs[i]? = some w) : (Src.zip n m).turn i ih = .item (.ref ih.length) (ih ++ [.tup [v, w]]) := by
  unfold Src.turn
  dsimp only
  rw [lAt_of h hl, lAt_of h2 hl2]
  dsimp only
  rw [hv, hw]
theorem stop_zip {ih : IH} {n m i : Nat} {o u : MO} (h : ih[n]? = some o) (hl : o.isL = true) (h2 : ih[m]? = some u) (hl2 : u.isL = true) (hi : o.xs.length ≤ i ∨ u.xs.length ≤ i) : (Src.zip n m).turn i ih = .stop := by
  unfold Src.turn
  dsimp only
  rw [lAt_of h hl, lAt_of h2 hl2]
  dsimp only
  rcases hi with hi | hi
  · rw [List.getElem?_eq_none hi]
  · rw [List.getElem?_eq_none hi]
    split <;> first | rfl | (rename_i z; cases z)
theorem for_rng1 {g : IV → Env → IH → Option Env} {mb : Env → IH → RS} {m : Env → IH → Res (List IV)} {env : Env} {ih ih1 : IH} {j : Int} (hm : m env ih = .ok [.int j] ih1) (hj : smallI j = true) : ms_for (mi_rng1 m) g mb env ih = forGo (.rng 0 1 j.toNat) g mb (j.toNat + 1) 0 env ih1 := by
  unfold ms_for mi_rng1
  rw [hm, Res.bind_ok]
  dsimp only
  rw [if_pos hj]
  rfl
theorem for_rng2 {g : IV → Env → IH → Option Env} {mb : Env → IH → RS} {m : Env → IH → Res (List IV)} {env : Env} {ih ih1 : IH} {i j : Int} (hm : m env ih = .ok [.int i, .int j] ih1) (hi : smallI i = true) (hj : smallI j = true) : ms_for (mi_rng2 m) g mb env ih = forGo (.rng i 1 (j - i).toNat) g mb ((j - i).toNat + 1) 0 env ih1 := by
  unfold ms_for mi_rng2
  rw [hm, Res.bind_ok]
  dsimp only
  rw [if_pos ⟨hi, hj⟩]
  rfl
theorem for_lst {g : IV → Env → IH → Option Env} {mb : Env → IH → RS} {m : Env → IH → Res IV} {env : Env} {ih ih1 : IH} {n : Nat} {o : MO} (hm : m env ih = .ok (.ref n) ih1) (h : ih1[n]? = some o) (hl : o.isL = true) : ms_for (mi_lst m) g mb env ih = forGo (.lst n) g mb (o.xs.length + 1) 0 env ih1 := by
  unfold ms_for mi_lst
  rw [hm, Res.bind_ok]
  dsimp only
  rw [lAt_of h hl]
  show forGo (.lst n) g mb ((Src.lst n).size ih1 + 1) 0 env ih1 = _
  unfold Src.size
  dsimp only
  rw [h]
theorem for_enm {g : IV → Env → IH → Option Env} {mb : Env → IH → RS} {m : Env → IH → Res (List IV)} {env : Env} {ih ih1 : IH} {n : Nat} {o : MO} (hm : m env ih = .ok [.ref n] ih1) (h : ih1[n]? = some o) (hl : o.isL = true) : ms_for (mi_enm m) g mb env ih = forGo (.enm n) g mb (o.xs.length + 1) 0 env ih1 := by
  unfold ms_for mi_enm
  rw [hm, Res.bind_ok]
  dsimp only
  rw [lAt_of h hl]
  show forGo (.enm n) g mb ((Src.enm n).size ih1 + 1) 0 env ih1 = _
  unfold Src.size
  dsimp only
  rw [h]
theorem smallI_mk {i : Int} (h : -(2 ^ 62) ≤ i) (h2 : i < 2 ^ 62) : smallI i = true := by
  unfold smallI
  rw [decide_eq_true h, decide_eq_true h2]
  rfl

/-! ### comprehensions -/
theorem lcGo_ind {s : Src} {g : IV → Env → IH → Option Env} {n : Env → IH → Res Bool} {me : Env → IH → Res IV} {d : Nat} {env : Env} (k : Nat) (P : Nat → List IV → IH → Prop)
    (turn : ∀ i acc ih, i < k → P i acc ih → ih[d]? = some (.lst acc) → ∃ v ih1 env1 b ih2, s.turn i ih = .item v ih1 ∧ g v env ih1 = some env1 ∧ n env1 ih1 = .ok b ih2 ∧ (b = false → ih2[d]? = some (.lst acc) ∧ P (i + 1) acc ih2) ∧
      (b = true → ∃ y ih3, me env1 ih2 = .ok y ih3 ∧ ih3[d]? = some (.lst acc) ∧ acc.length < 100000 ∧ P (i + 1) (acc ++ [y]) (ih3.set d (.lst (acc ++ [y])))))
    (stop : ∀ acc ih, P k acc ih → ih[d]? = some (.lst acc) → s.turn k ih = .stop) :
    ∀ (f i : Nat) (acc : List IV) (ih : IH), i ≤ k → k - i < f → P i acc ih → ih[d]? = some (.lst acc) → ∃ acc' ih', lcGo s g n me d env f i ih = .ok (.ref d) ih' ∧ ih'[d]? = some (.lst acc') ∧ P k acc' ih' := by
  intro f
  induction f with
  | zero => intro i acc ih h1 h2; omega
  | succ f ihf =>
    intro i acc ih h1 h2 hp hd
    unfold lcGo
    by_cases hk : i = k
    · subst hk
      rw [stop acc ih hp hd]
      exact ⟨acc, ih, rfl, hd, hp⟩
    · obtain ⟨v, ih1, env1, b, ih2, t1, t2, t3, t4, t5⟩ := turn i acc ih (by omega) hp hd
      rw [t1]
      dsimp only
      rw [t2]
      dsimp only
      rw [t3]
      cases b with
      | false =>
        obtain ⟨h3, h4⟩ := t4 rfl
        exact ihf (i + 1) acc ih2 (by omega) (by omega) h4 h3
      | true =>
        obtain ⟨y, ih3, h3, h4, h5, h6⟩ := t5 rfl
        dsimp only
        rw [h3]
        dsimp only
        rw [h4]
        dsimp only
        rw [if_pos h5]
        exact ihf (i + 1) (acc ++ [y]) _ (by omega) (by omega) h6 (get_set h4)
theorem set_append_last (a : IH) (o u : MO) : (a ++ [o]).set a.length u = a ++ [u] := by
  rw [List.set_append_right _ _ (Nat.le_refl _), Nat.sub_self]
  rfl
/-- [me for x in xs if n], over a list; the parts leave the heap -/
theorem lc_lst {vs : List Nat} {m : Env → IH → Res IV} {i : Nat} {n : Env → IH → Res Bool} {me : Env → IH → Res IV} {env : Env} {ih ih1 : IH} {p : Nat} {o : MO} (F : IV → IV) (T : IV → Bool) (hm : m env ih = .ok (.ref p) ih1) (ho : ih1[p]? = some o) (hl : o.isL = true) (hz : o.xs.length < 100000)
    (ht : ∀ x ∈ o.xs, ∀ ih', Ext ih1 ih' → n ((wipeI env vs).set i (some x)) ih' = .ok (T x) ih') (he : ∀ x ∈ o.xs, T x = true → ∀ ih', Ext ih1 ih' → me ((wipeI env vs).set i (some x)) ih' = .ok (F x) ih') :
    m_lc vs (mi_lst m) (g_nm i) n me env ih = .ok (.ref ih1.length) (ih1 ++ [.lst ((o.xs.filter T).map F)]) := by
  unfold m_lc mi_lst
  rw [hm, Res.bind_ok]
  dsimp only
  rw [lAt_of ho hl]
  dsimp only
  rw [Res.bind_ok]
  have hs : (Src.lst p).size ih1 = o.xs.length := by
    unfold Src.size
    dsimp only
    rw [ho]
  rw [hs]
  obtain ⟨acc', ih', e1, e2, e3⟩ := lcGo_ind (s := .lst p) (g := g_nm i) (n := n) (me := me) (d := ih1.length) (env := wipeI env vs) o.xs.length (fun k acc ih => acc = ((o.xs.take k).filter T).map F ∧ ih = ih1 ++ [.lst acc])
    (fun k acc ih hk ⟨ha, hi⟩ hd => by
      subst hi
      have hx : (ih1 ++ [MO.lst acc])[p]? = some o := Ext.app _ _ _ _ ho
      have hxk : o.xs[k]? = some o.xs[k] := List.getElem?_eq_getElem hk
      have hmem : o.xs[k] ∈ o.xs := List.getElem_mem hk
      have etk : (o.xs.take (k + 1)) = o.xs.take k ++ [o.xs[k]] := by rw [List.take_add_one, hxk]; rfl
      refine ⟨o.xs[k], _, _, T o.xs[k], _, turn_lst hx hl hxk, rfl, ht _ hmem _ (Ext.app _ _), fun hb => ⟨hd, ?_, rfl⟩, fun hb => ⟨_, _, he _ hmem hb _ (Ext.app _ _), hd, ?_, ?_, ?_⟩⟩
      · rw [etk, List.filter_append, ha, List.filter_cons, hb]
        simp
      · rw [ha, List.length_map]
        exact Nat.lt_of_le_of_lt (List.length_filter_le _ _) (Nat.lt_of_le_of_lt (List.length_take_le' _ _) hz)
      · rw [etk, List.filter_append, ha, List.filter_cons, hb]
        simp
      · rw [set_append_last])
    (fun acc ih ⟨ha, hi⟩ hd => by
      subst hi
      exact stop_lst (Ext.app _ _ _ _ ho) hl)
    (o.xs.length + 1) 0 [] (ih1 ++ [.lst []]) (Nat.zero_le _) (by omega) ⟨by simp, rfl⟩ (get_new _ _)
  rw [e1]
  obtain ⟨h1, h2⟩ := e3
  rw [h2, h1, List.take_length]
theorem filter_true (xs : List IV) : xs.filter (fun _ => true) = xs := List.filter_eq_self.mpr fun _ _ => rfl
/-- without a test -/
theorem lc_map {vs : List Nat} {m : Env → IH → Res IV} {i : Nat} {me : Env → IH → Res IV} {env : Env} {ih ih1 : IH} {p : Nat} {o : MO} (F : IV → IV) (hm : m env ih = .ok (.ref p) ih1) (ho : ih1[p]? = some o) (hl : o.isL = true) (hz : o.xs.length < 100000)
    (he : ∀ x ∈ o.xs, ∀ ih', Ext ih1 ih' → me ((wipeI env vs).set i (some x)) ih' = .ok (F x) ih') :
    m_lc vs (mi_lst m) (g_nm i) n_yes me env ih = .ok (.ref ih1.length) (ih1 ++ [.lst (o.xs.map F)]) := by
  have h := lc_lst (n := n_yes) F (fun _ => true) hm ho hl hz (fun x _ ih' _ => rfl) (fun x hx _ ih' e => he x hx ih' e)
  rw [filter_true] at h
  exact h
/-- over a range -/
theorem lc_rng {vs : List Nat} {m : Env → IH → Res (List IV)} {i : Nat} {me : Env → IH → Res IV} {env : Env} {ih ih1 : IH} {j : Int} (F : Nat → IV) (hm : m env ih = .ok [.int j] ih1) (hj : smallI j = true) (hz : j < 100000)
    (he : ∀ k : Nat, (k : Int) < j → ∀ ih', Ext ih1 ih' → me ((wipeI env vs).set i (some (.int (k : Int)))) ih' = .ok (F k) ih') :
    m_lc vs (mi_rng1 m) (g_nm i) n_yes me env ih = .ok (.ref ih1.length) (ih1 ++ [.lst ((List.range j.toNat).map F)]) := by
  unfold m_lc mi_rng1
  rw [hm, Res.bind_ok]
  dsimp only
  rw [if_pos hj, Res.bind_ok]
  show lcGo (.rng 0 1 j.toNat) (g_nm i) n_yes me ih1.length (wipeI env vs) (j.toNat + 1) 0 (ih1 ++ [.lst []]) = _
  obtain ⟨acc', ih', e1, e2, e3⟩ := lcGo_ind (s := .rng 0 1 j.toNat) (g := g_nm i) (n := n_yes) (me := me) (d := ih1.length) (env := wipeI env vs) j.toNat (fun k acc ih => acc = (List.range k).map F ∧ ih = ih1 ++ [.lst acc])
    (fun k acc ih hk ⟨ha, hi⟩ hd => by
      subst hi
      have e0 : (0 : Int) + (k : Int) * 1 = (k : Int) := by omega
      refine ⟨.int (k : Int), _, _, true, _, by rw [turn_rng hk, e0], rfl, rfl, (fun hb => nomatch hb), fun _ => ⟨_, _, he k (by omega) _ (Ext.app _ _), hd, ?_, ?_, ?_⟩⟩
      · rw [ha, List.length_map, List.length_range]
        omega
      · rw [ha, List.range_succ, List.map_append]
        rfl
      · rw [set_append_last])
    (fun acc ih _ hd => stop_rng) (j.toNat + 1) 0 [] (ih1 ++ [.lst []]) (Nat.zero_le _) (by omega) ⟨by simp, rfl⟩ (get_new _ _)
  rw [e1]
  obtain ⟨h1, h2⟩ := e3
  rw [h2, h1]
theorem ExtP.of_set {a b : IH} {d : Nat} {o : MO} (h : Ext a b) (hd : a.length ≤ d) : Ext a (b.set d o) := fun n u e => by
  have := (List.getElem?_eq_some_iff.mp e).1
  rw [List.getElem?_set_ne (by omega)]
  exact h n u e
/-- [me for a, b in zip(xs, ys)]: the pairs stay behind -/
theorem lc_zip {vs : List Nat} {m : Env → IH → Res (List IV)} {i j : Nat} {me : Env → IH → Res IV} {env : Env} {ih ih1 : IH} {p q : Nat} {o u : MO} (F : IV → IV → IV) (hm : m env ih = .ok [.ref p, .ref q] ih1) (ho : ih1[p]? = some o) (hl : o.isL = true) (hu : ih1[q]? = some u) (hl2 : u.isL = true) (hz : o.xs.length < 100000)
    (he : ∀ (k : Nat) (x y : IV), o.xs[k]? = some x → u.xs[k]? = some y → ∀ ih', Ext ih1 ih' → me (((wipeI env vs).set i (some x)).set j (some y)) ih' = .ok (F x y) ih') :
    ∃ ih', m_lc vs (mi_zip m) (g_tup 2 (g_cons (g_nm i) (g_cons (g_nm j) g_nil))) n_yes me env ih = .ok (.ref ih1.length) ih' ∧ Ext ih1 ih' ∧ ih'[ih1.length]? = some (.lst (List.zipWith F o.xs u.xs)) := by
  unfold m_lc mi_zip
  rw [hm, Res.bind_ok]
  dsimp only
  rw [lAt_of ho hl, lAt_of hu hl2]
  dsimp only
  rw [Res.bind_ok]
  have hs : (Src.zip p q).size ih1 = o.xs.length := by
    unfold Src.size
    dsimp only
    rw [ho]
  rw [hs]
  obtain ⟨acc', ih', e1, e2, e3⟩ := lcGo_ind (s := .zip p q) (g := g_tup 2 (g_cons (g_nm i) (g_cons (g_nm j) g_nil))) (n := n_yes) (me := me) (d := ih1.length) (env := wipeI env vs) (min o.xs.length u.xs.length) (fun k acc ih => acc = List.zipWith F (o.xs.take k) (u.xs.take k) ∧ Ext ih1 ih)
    (fun k acc ih hk ⟨ha, hi⟩ hd => by
      have hk1 : k < o.xs.length := by omega
      have hk2 : k < u.xs.length := by omega
      have hx : o.xs[k]? = some o.xs[k] := List.getElem?_eq_getElem hk1
      have hy : u.xs[k]? = some u.xs[k] := List.getElem?_eq_getElem hk2
      have e0 : Ext ih (ih ++ [.tup [o.xs[k], u.xs[k]]]) := Ext.app _ _
      refine ⟨.ref ih.length, _, _, true, _, turn_zip (hi _ _ ho) hl hx (hi _ _ hu) hl2 hy, ?_, rfl, (fun hb => nomatch hb), fun _ => ⟨_, _, he k _ _ hx hy _ (hi.trans e0), e0 _ _ hd, ?_, ?_, ?_⟩⟩
      · unfold g_tup
        dsimp only
        rw [get_new]
        rfl
      · rw [ha, List.length_zipWith, List.length_take, List.length_take]
        omega
      · have e3 : o.xs.take (k + 1) = o.xs.take k ++ [o.xs[k]] := by rw [List.take_add_one, hx]; rfl
        have e4 : u.xs.take (k + 1) = u.xs.take k ++ [u.xs[k]] := by rw [List.take_add_one, hy]; rfl
        rw [ha, e3, e4, List.zipWith_append (by rw [List.length_take, List.length_take]; omega)]
        rfl
      · exact ExtP.of_set (hi.trans e0) (Nat.le_refl _))
    (fun acc ih ⟨ha, hi⟩ hd => stop_zip (hi _ _ ho) hl (hi _ _ hu) hl2 (by omega))
    (o.xs.length + 1) 0 [] (ih1 ++ [.lst []]) (Nat.zero_le _) (by omega) ⟨by simp, Ext.app _ _⟩ (get_new _ _)
  refine ⟨ih', e1, e3.2, ?_⟩
  rw [e2, e3.1]
  congr 2
  exact (List.zipWith_eq_zipWith_take_min (f := F)).symm

/-! ### built-ins over lists -/
theorem a_ints {g : List Int → IH → Res IV} {n : Nat} {ih : IH} {o : MO} {ns : List Int} (h : ih[n]? = some o) (hl : o.isL = true) (hx : o.xs = ns.map IV.int) : f_ints g [.ref n] ih = g ns ih := by
  unfold f_ints
  dsimp only
  rw [h]
  dsimp only
  rw [if_pos hl, hx, ints?_map]
theorem a_bls {g : List Bool → IH → Res IV} {n : Nat} {ih : IH} {o : MO} {ns : List Bool} (h : ih[n]? = some o) (hl : o.isL = true) (hx : o.xs = ns.map IV.bl) : f_bls g [.ref n] ih = g ns ih := by
  unfold f_bls
  dsimp only
  rw [h]
  dsimp only
  rw [if_pos hl, hx, bls?_map]
theorem a_sum {n : Nat} {ih : IH} {o : MO} {ns : List Int} (h : ih[n]? = some o) (hl : o.isL = true) (hx : o.xs = ns.map IV.int) : f_sum [.ref n] ih = .ok (.int ns.sum) ih := a_ints h hl hx
theorem a_all {n : Nat} {ih : IH} {o : MO} {ns : List Bool} (h : ih[n]? = some o) (hl : o.isL = true) (hx : o.xs = ns.map IV.bl) : f_all [.ref n] ih = .ok (.bl (ns.all id)) ih := a_bls h hl hx
theorem a_any {n : Nat} {ih : IH} {o : MO} {ns : List Bool} (h : ih[n]? = some o) (hl : o.isL = true) (hx : o.xs = ns.map IV.bl) : f_any [.ref n] ih = .ok (.bl (ns.any id)) ih := a_bls h hl hx
theorem a_slL {n : Nat} {ih : IH} {xs : List IV} {lo hi : Option Int} (h : ih[n]? = some (.lst xs)) : f_sl (.ref n) lo hi ih = .ok (.ref ih.length) (ih ++ [.lst (cutI xs lo hi)]) := by
  unfold f_sl
  dsimp only
  rw [h]
theorem cutI_1 (xs : List IV) : cutI xs (some 1) none = xs.drop 1 := by
  unfold cutI
  rw [show HT.sIx xs.length 0 (some 1) = min 1 xs.length from HT.sIx_nat xs.length 0 1, HT.sIx_none]
  cases xs with
  | nil => rfl
  | cons x r =>
    rw [show min 1 (x :: r).length = 1 by rw [List.length_cons]; omega]
    show (List.take ((x :: r).length - 1) r) = r
    rw [List.length_cons, Nat.add_sub_cancel]
    exact List.take_length
/-! ### equal data -/
theorem Is.ext {a b : IH} (e : Ext a b) : ∀ (d : PyData) (v : IV), Is a v d → Is b v d := by
  intro d
  have both : (∀ (d : PyData) (v : IV), Is a v d → Is b v d) ∧ (∀ (ds : List PyData) (vs : List IV), IsAll a vs ds → IsAll b vs ds) := by
    constructor
    · intro d v h
      exact Is.rec (motive_1 := fun v d _ => Is b v d) (motive_2 := fun vs ds _ => IsAll b vs ds) .non .bl .int .str (fun h1 h2 _ h3 => .lst (e _ _ h1) h2 h3) (fun h1 h2 _ h3 => .tup (e _ _ h1) h2 h3) .nil (fun _ _ h1 h2 => .cons h1 h2) h
    · intro ds vs h
      exact IsAll.rec (motive_1 := fun v d _ => Is b v d) (motive_2 := fun vs ds _ => IsAll b vs ds) .non .bl .int .str (fun h1 h2 _ h3 => .lst (e _ _ h1) h2 h3) (fun h1 h2 _ h3 => .tup (e _ _ h1) h2 h3) .nil (fun _ _ h1 h2 => .cons h1 h2) h
  exact both.1 d
theorem IsAll.ints (ih : IH) : ∀ ns : List Int, IsAll ih (ns.map IV.int) (ns.map PyData.int)
  | [] => .nil
  | n :: r => .cons (.int n) (IsAll.ints ih r)
theorem Is.ints {ih : IH} {n : Nat} {o : MO} {ns : List Int} (h : ih[n]? = some o) (hl : o.isL = true) (hx : o.xs = ns.map IV.int) : Is ih (.ref n) (.list (ns.map .int)) := .lst h hl (hx ▸ IsAll.ints ih ns)
theorem shaped_int (i : Int) : SeqAt.shaped (.int i) = true := by
  unfold SeqAt.shaped
  simp [PyData.canLay0, PyData.depth]
theorem canLay_ints : ∀ ns : List Int, PyData.canLayAll0 (ns.map PyData.int) = true
  | [] => by simp [PyData.canLayAll0]
  | n :: r => by
    rw [List.map_cons]
    simp [PyData.canLayAll0, PyData.canLay0, canLay_ints r]
theorem depth_ints : ∀ ns : List Int, PyData.depthAll (ns.map PyData.int) = 0
  | [] => by simp [PyData.depthAll]
  | n :: r => by
    rw [List.map_cons]
    simp [PyData.depthAll, PyData.depth, depth_ints r]
theorem shaped_ints (ns : List Int) : SeqAt.shaped (.list (ns.map .int)) = true := by
  unfold SeqAt.shaped
  simp [PyData.canLay0, PyData.depth, canLay_ints, depth_ints]
theorem eqv_ints : ∀ ns ms : List Int, PyData.eqvAll (ns.map .int) (ms.map .int) = decide (ns = ms)
  | [], [] => by simp [PyData.eqvAll]
  | [], _ :: _ => by simp [PyData.eqvAll]
  | _ :: _, [] => by simp [PyData.eqvAll]
  | n :: r, m :: s => by
    rw [List.map_cons, List.map_cons]
    simp only [PyData.eqvAll, PyData.eqv, eqv_ints r s]
    by_cases h : n = m
    · subst h
      simp
    · simp [h]
theorem eqv_list (ns ms : List Int) : PyData.eqv (.list (ns.map .int)) (.list (ms.map .int)) = decide (ns = ms) := by
  simp only [PyData.eqv, eqv_ints]
theorem eqv_same {d : PyData} (h : SeqAt.shaped d = true) : PyData.eqv d d = true := by
  unfold SeqAt.shaped at h
  rw [Bool.and_eq_true] at h
  exact PySem.SeqAt.eqv_refl d h.1
theorem a_eq_int {i j : Int} {ih : IH} : f_eq (.int i) (.int j) ih = .ok (.bl (decide (i = j))) ih := by
  rw [f_eq_of (.int i) (.int j) (shaped_int i) (shaped_int j)]
  simp only [PyData.eqv]
  rfl
theorem a_ne_int {i j : Int} {ih : IH} : f_ne (.int i) (.int j) ih = .ok (.bl (!decide (i = j))) ih := by
  rw [f_ne_of (.int i) (.int j) (shaped_int i) (shaped_int j)]
  simp only [PyData.eqv]
  rfl
/-- equal things: != is False, == is True -/
theorem a_ne_same {x y : IV} {ih : IH} {d : PyData} (h1 : Is ih x d) (h2 : Is ih y d) (s : SeqAt.shaped d = true) : f_ne x y ih = .ok (.bl false) ih := by
  rw [f_ne_of h1 h2 s s, eqv_same s]
  rfl
theorem a_eq_same {x y : IV} {ih : IH} {d : PyData} (h1 : Is ih x d) (h2 : Is ih y d) (s : SeqAt.shaped d = true) : f_eq x y ih = .ok (.bl true) ih := by
  rw [f_eq_of h1 h2 s s, eqv_same s]
end L3
/-! L7: mirrors, run backwards: what is wanted behind a mirror. -/
namespace L3
open PySem PySem.Spec PyProof.Rows L2

abbrev PQ (α : Type) := α → IH → Prop
abbrev EQ := Addr → IH → Prop
abbrev SQ := Fl → IH → Prop
abbrev ES := Addr → Env → IH → Prop
def wp {α : Type} (r : Res α) (Q : PQ α) (E : EQ) : Prop := match r with
  | .ok v ih => Q v ih
  | .exc c ih => E c ih
  | .stuck => False
def ws (r : RS) (Q : SQ) (E : ES) : Prop := match r with
  | .ok f ih => Q f ih
  | .exc c env ih => E c env ih
  | .stuck => False
def E0 : EQ := fun _ _ => False
def S0 : ES := fun _ _ _ => False
def kE (E : ES) (env : Env) : EQ := fun c ih => E c env ih
section
variable {α β : Type} {v : α} {ih : IH} {Q Q' : PQ α} {E E' : EQ} {c : Addr} {r : Res α} {env : Env} {f : Fl} {S : SQ} {F : ES}
theorem wp_ok : wp (.ok v ih) Q E = Q v ih := rfl
theorem wp_exc : wp (.exc c ih) Q E = E c ih := rfl
theorem wp_stuck : wp (.stuck) Q E = False := rfl
theorem ws_ok : ws (.ok f ih) S F = S f ih := rfl
theorem ws_exc : ws (.exc c env ih) S F = F c env ih := rfl
theorem ws_stuck : ws .stuck S F = False := rfl
theorem wp.imp (h : wp r Q E) (q : ∀ v ih, Q v ih → Q' v ih) (e : ∀ c ih, E c ih → E' c ih) : wp r Q' E' := by
  cases r with
  | ok v ih => exact q _ _ h
  | exc c ih => exact e _ _ h
  | stuck => exact h
theorem ws.imp {r : RS} {S' : SQ} {F' : ES} (h : ws r S F) (q : ∀ v ih, S v ih → S' v ih) (e : ∀ c env ih, F c env ih → F' c env ih) : ws r S' F' := by
  cases r with
  | ok v ih => exact q _ _ h
  | exc c env ih => exact e _ _ _ h
  | stuck => exact h
theorem wp_bind {r : Res α} {k : α → IH → Res β} {Q : PQ β} : wp (r.bind k) Q E = wp r (fun v ih => wp (k v ih) Q E) E := by
  cases r <;> rfl
theorem ws_stm {r : Res α} {k : α → IH → RS} : ws (r.stm env k) S F = wp r (fun v ih => ws (k v ih) S F) (kE F env) := by
  cases r <;> rfl
/-- an outcome -/
theorem wp.out (h : wp r Q E0) : ∃ v ih', r = .ok v ih' ∧ Q v ih' := by
  cases r with
  | ok v ih => exact ⟨v, ih, rfl, h⟩
  | exc c ih => exact h.elim
  | stuck => exact h.elim
theorem wp.eq {a : α} {b : IH} (h : wp r (fun v ih' => v = a ∧ ih' = b) E0) : r = .ok a b := by
  obtain ⟨v, ih', e, rfl, rfl⟩ := h.out
  exact e
theorem wp.of {a : α} {b : IH} (h : r = .ok a b) (q : Q a b) : wp r Q E := by
  rw [h]
  exact q
theorem ws.out {r : RS} (h : ws r S S0) : ∃ f ih', r = .ok f ih' ∧ S f ih' := by
  cases r with
  | ok v ih => exact ⟨v, ih, rfl, h⟩
  | exc c env ih => exact h.elim
  | stuck => exact h.elim
end

/-! ### what is left, as constants -/
section
variable {α β γ : Type}
def k_un (f : α → IH → Res β) (Q : PQ β) (E : EQ) : PQ α := fun x ih => wp (f x ih) Q E
def k_op (f : IV → IV → IH → Res IV) (mb : Env → IH → Res IV) (env : Env) (Q : PQ IV) (E : EQ) : PQ IV := fun x ih => wp (mb env ih) (k_un (f x) Q E) E
def k_cons2 (x : IV) (Q : PQ (List IV)) : PQ (List IV) := fun xs ih => Q (x :: xs) ih
def k_cons (mr : Env → IH → Res (List IV)) (env : Env) (Q : PQ (List IV)) (E : EQ) : PQ IV := fun x ih => wp (mr env ih) (k_cons2 x Q) E
def k_if (ma mb : Env → IH → Res α) (env : Env) (Q : PQ α) (E : EQ) : PQ Bool := fun b ih => if b = true then wp (ma env ih) Q E else wp (mb env ih) Q E
def k_and (mb : Env → IH → Res Bool) (env : Env) (Q : PQ Bool) (E : EQ) : PQ Bool := fun b ih => if b = true then wp (mb env ih) Q E else Q false ih
def k_or (mb : Env → IH → Res Bool) (env : Env) (Q : PQ Bool) (E : EQ) : PQ Bool := fun b ih => if b = true then Q true ih else wp (mb env ih) Q E
def k_not (Q : PQ Bool) : PQ Bool := fun b ih => Q (!b) ih
def k_tb (Q : PQ Bool) : PQ IV := fun v ih => match v with
  | .bl b => Q b ih
  | _ => False
def k_andV (mb : Env → IH → Res IV) (env : Env) (Q : PQ IV) (E : EQ) : PQ Bool := fun b ih => if b = true then wp (mb env ih) Q E else Q (.bl false) ih
def k_orV (mb : Env → IH → Res IV) (env : Env) (Q : PQ IV) (E : EQ) : PQ Bool := fun b ih => if b = true then Q (.bl true) ih else wp (mb env ih) Q E
def k_notV (Q : PQ IV) : PQ Bool := fun b ih => Q (.bl !b) ih
def k_some (Q : PQ (Option Int)) : PQ IV := fun v ih => match v with
  | .int i => Q (some i) ih
  | _ => False
def k_sl3 (x : IV) (l : Option Int) (Q : PQ IV) (E : EQ) : PQ (Option Int) := fun h ih => wp (f_sl x l h ih) Q E
def k_sl2 (x : IV) (mh : Env → IH → Res (Option Int)) (env : Env) (Q : PQ IV) (E : EQ) : PQ (Option Int) := fun l ih => wp (mh env ih) (k_sl3 x l Q E) E
def k_sl (ml mh : Env → IH → Res (Option Int)) (env : Env) (Q : PQ IV) (E : EQ) : PQ IV := fun x ih => wp (ml env ih) (k_sl2 x mh env Q E) E
def k_mL2 (f : IV → List IV → IH → Res IV) (x : IV) (Q : PQ IV) (E : EQ) : PQ (List IV) := fun xs ih => wp (f x xs ih) Q E
def k_mL (f : IV → List IV → IH → Res IV) (mr : Env → IH → Res (List IV)) (env : Env) (Q : PQ IV) (E : EQ) : PQ IV := fun x ih => isLst x ih = true ∧ wp (mr env ih) (k_mL2 f x Q E) E
def k_mL0 (f : IV → List IV → IH → Res IV) (Q : PQ IV) (E : EQ) : PQ IV := fun x ih => isLst x ih = true ∧ wp (f x [] ih) Q E
def k_ch3 (g : IV → IV → IH → Res IV) (y : IV) (mc : Env → IH → Res IV) (env : Env) (Q : PQ IV) (E : EQ) : PQ Bool := fun k ih => if k = true then wp (mc env ih) (k_un (g y) Q E) E else Q (.bl false) ih
def k_ch2 (f g : IV → IV → IH → Res IV) (x : IV) (mc : Env → IH → Res IV) (env : Env) (Q : PQ IV) (E : EQ) : PQ IV := fun y ih => wp (f x y ih) (k_tb (k_ch3 g y mc env Q E)) E
def k_ch (f g : IV → IV → IH → Res IV) (mb mc : Env → IH → Res IV) (env : Env) (Q : PQ IV) (E : EQ) : PQ IV := fun x ih => wp (mb env ih) (k_ch2 f g x mc env Q E) E
def ks_set (g : IV → Env → IH → Option Env) (env : Env) (S : SQ) : PQ IV := fun v ih => match g v env ih with
  | some env' => S (.next env') ih
  | none => False
def ks_expr (env : Env) (S : SQ) : PQ IV := fun _ ih => S (.next env) ih
def ks_ret (S : SQ) : PQ IV := fun v ih => S (.ret v) ih
def ks_if (ma mb : Env → IH → RS) (env : Env) (S : SQ) (F : ES) : PQ Bool := fun b ih => if b = true then ws (ma env ih) S F else ws (mb env ih) S F
def ks_seq (mb : Env → IH → RS) (S : SQ) (F : ES) : SQ := fun f ih => match f with
  | .next env => ws (mb env ih) S F
  | z => S z ih
def ks_aug2 (i : Nat) (env : Env) (S : SQ) : PQ IV := fun z ih => S (.next (env.set i (some z))) ih
def ks_aug (i : Nat) (f : IV → IV → IH → Res IV) (x : IV) (env : Env) (S : SQ) (F : ES) : PQ IV := fun y ih => wp (f x y ih) (ks_aug2 i env S) (kE F env)
def ks_par (i j : Nat) (env : Env) (S : SQ) : PQ (List IV) := fun vs ih => match vs with
  | [v, w] => S (.next ((env.set i (some v)).set j (some w))) ih
  | _ => False
def ks_sl4 (o i v : IV) (env : Env) (S : SQ) (ih : IH) : Prop := match f_setL o i v ih with
  | some ih4 => S (.next env) ih4
  | none => False
def ks_sl3 (v o : IV) (env : Env) (S : SQ) : PQ IV := fun i ih => ks_sl4 o i v env S ih
def ks_sl2 (v : IV) (mi : Env → IH → Res IV) (env : Env) (S : SQ) (F : ES) : PQ IV := fun o ih => wp (mi env ih) (ks_sl3 v o env S) (kE F env)
def ks_sl (mo mi : Env → IH → Res IV) (env : Env) (S : SQ) (F : ES) : PQ IV := fun v ih => wp (mo env ih) (ks_sl2 v mi env S F) (kE F env)
def kd (Q : PQ IV) : SQ := fun f ih => match f with
  | .ret v => Q v ih
  | .next _ => Q .non ih
  | _ => False
def kdE (E : EQ) : ES := fun c _ ih => E c ih
/-- of a source: the loop -/
def ks_for (g : IV → Env → IH → Option Env) (mb : Env → IH → RS) (env : Env) (S : SQ) (F : ES) : PQ Src := fun s ih => ws (forGo s g mb (s.size ih + 1) 0 env ih) S F
def k_lc (vs : List Nat) (g : IV → Env → IH → Option Env) (n : Env → IH → Res Bool) (me : Env → IH → Res IV) (env : Env) (Q : PQ IV) (E : EQ) : PQ Src := fun s ih => wp (lcGo s g n me ih.length (wipeI env vs) (s.size ih + 1) 0 (ih ++ [.lst []])) Q E
def k_r1 (Q : PQ Src) : PQ (List IV) := fun vs ih => match vs with
  | [.int j] => smallI j = true ∧ Q (.rng 0 1 j.toNat) ih
  | _ => False
def k_r2 (Q : PQ Src) : PQ (List IV) := fun vs ih => match vs with
  | [.int i, .int j] => (smallI i = true ∧ smallI j = true) ∧ Q (.rng i 1 (j - i).toNat) ih
  | _ => False
def k_il2 (n : Nat) (Q : PQ Src) (ih : IH) : Option (List IV) → Prop
  | some _ => Q (.lst n) ih
  | none => False
def k_il (Q : PQ Src) : PQ IV := fun v ih => match v with
  | .ref n => k_il2 n Q ih (lAt ih n true)
  | _ => False
def k_it2 (n : Nat) (Q : PQ Src) (ih : IH) : Option (List IV) → Prop
  | some _ => Q (.tup n) ih
  | none => False
def k_it (Q : PQ Src) : PQ IV := fun v ih => match v with
  | .ref n => k_it2 n Q ih (lAt ih n false)
  | _ => False
def k_ie2 (n : Nat) (Q : PQ Src) (ih : IH) : Option (List IV) → Prop
  | some _ => Q (.enm n) ih
  | none => False
def k_ie (Q : PQ Src) : PQ (List IV) := fun v ih => match v with
  | [.ref n] => k_ie2 n Q ih (lAt ih n true)
  | _ => False
def k_iz2 (n k : Nat) (Q : PQ Src) (ih : IH) : Option (List IV) → Option (List IV) → Prop
  | some _, some _ => Q (.zip n k) ih
  | _, _ => False
def k_iz (Q : PQ Src) : PQ (List IV) := fun v ih => match v with
  | [.ref n, .ref k] => k_iz2 n k Q ih (lAt ih n true) (lAt ih k true)
  | _ => False
/-- reading at a place -/
def k_ix2 (Q : PQ IV) (ih : IH) : Option IV → Prop
  | some v => Q v ih
  | none => False
def k_ix (i : Int) (Q : PQ IV) (ih : IH) : Option MO → Prop
  | some o => k_ix2 Q ih (atI o.xs i)
  | none => False
def k_len (Q : PQ IV) (ih : IH) : Option MO → Prop
  | some .dct => False
  | some o => Q (.int o.xs.length) ih
  | none => False
def k_app1 (n : Nat) (y : IV) (Q : PQ IV) (ih : IH) : Option MO → Prop
  | some (.lst xs) => xs.length < 100000 ∧ Q .non (ih.set n (.lst (xs ++ [y])))
  | _ => False
def k_setL (n : Nat) (i : Int) (v : IV) (env : Env) (S : SQ) (ih : IH) : Option MO → Prop
  | some (.lst xs) => match ixN xs.length i with
    | some j => S (.next env) (ih.set n (.lst (xs.set j v)))
    | none => False
  | _ => False
end

/-! ### the steps -/
section
variable {α β : Type} {ma mb mc mr2 : Env → IH → Res IV} {mt nb : Env → IH → Res Bool} {mr : Env → IH → Res (List IV)} {ml mh : Env → IH → Res (Option Int)} {sa sb : Env → IH → RS} {env env' : Env} {ih ih' : IH} {Q : PQ IV} {QB : PQ Bool} {QL : PQ (List IV)} {QO : PQ (Option Int)} {QS : PQ Src} {E : EQ} {S : SQ} {F : ES} {f g : IV → IV → IH → Res IV} {x y v w : IV} {xs : List IV} {i j : Int} {n m : Nat} {b : Bool} {p q : Prop} {o : MO} {c : Addr}
theorem wp_op : wp (m_op f ma mb env ih) Q E = wp (ma env ih) (k_op f mb env Q E) E := by
  unfold m_op
  rw [wp_bind]
  simp only [wp_bind]
  rfl
theorem kk_op : k_op f mb env Q E x ih = wp (mb env ih) (k_un (f x) Q E) E := rfl
theorem kk_un {f : α → IH → Res β} {Q : PQ β} {x : α} : k_un f Q E x ih = wp (f x ih) Q E := rfl
theorem wp_un {f : IV → IH → Res IV} : wp (m_un f ma env ih) Q E = wp (ma env ih) (k_un f Q E) E := by
  unfold m_un
  rw [wp_bind]
  rfl
theorem wp_cons : wp (m_cons ma mr env ih) QL E = wp (ma env ih) (k_cons mr env QL E) E := by
  unfold m_cons
  rw [wp_bind]
  simp only [wp_bind]
  rfl
theorem kk_cons : k_cons mr env QL E x ih = wp (mr env ih) (k_cons2 x QL) E := rfl
theorem kk_cons2 : k_cons2 x QL xs ih = QL (x :: xs) ih := rfl
theorem wp_nil : wp (m_nil env ih) QL E = QL [] ih := rfl
theorem wp_c : wp (m_c v env ih) Q E = Q v ih := rfl
theorem wp_app {f : List IV → IH → Res IV} : wp (m_app f mr env ih) Q E = wp (mr env ih) (k_un f Q E) E := by
  unfold m_app
  rw [wp_bind]
  rfl
theorem wp_if : wp (m_if mt ma mb env ih) Q E = wp (mt env ih) (k_if ma mb env Q E) E := by
  unfold m_if
  rw [wp_bind]
  congr 1
  funext b ih
  cases b <;> rfl
theorem kk_if1 {ma mb : Env → IH → Res α} {Q : PQ α} : k_if ma mb env Q E true ih = wp (ma env ih) Q E := rfl
theorem kk_if0 {ma mb : Env → IH → Res α} {Q : PQ α} : k_if ma mb env Q E false ih = wp (mb env ih) Q E := rfl
theorem wp_and : wp (m_and mt nb env ih) QB E = wp (mt env ih) (k_and nb env QB E) E := by
  unfold m_and
  rw [wp_bind]
  congr 1
  funext b ih
  cases b <;> rfl
theorem kk_and1 : k_and nb env QB E true ih = wp (nb env ih) QB E := rfl
theorem kk_and0 : k_and nb env QB E false ih = QB false ih := rfl
theorem wp_or : wp (m_or mt nb env ih) QB E = wp (mt env ih) (k_or nb env QB E) E := by
  unfold m_or
  rw [wp_bind]
  congr 1
  funext b ih
  cases b <;> rfl
theorem kk_or1 : k_or nb env QB E true ih = QB true ih := rfl
theorem kk_or0 : k_or nb env QB E false ih = wp (nb env ih) QB E := rfl
theorem wp_not : wp (m_not mt env ih) QB E = wp (mt env ih) (k_not QB) E := by
  unfold m_not
  rw [wp_bind]
  rfl
theorem kk_not : k_not QB b ih = QB (!b) ih := rfl
theorem wp_tb : wp (m_tb ma env ih) QB E = wp (ma env ih) (k_tb QB) E := by
  unfold m_tb
  rw [wp_bind]
  congr 1
  funext v ih
  cases v <;> rfl
theorem kk_tb : k_tb QB (.bl b) ih = QB b ih := rfl
theorem wp_andV : wp (m_andV ma mb env ih) Q E = wp (ma env ih) (k_tb (k_andV mb env Q E)) E := by
  unfold m_andV
  rw [wp_bind]
  congr 1
  funext v ih
  cases v with
  | bl b => cases b <;> rfl
  | _ => rfl
theorem kk_andV1 : k_andV mb env Q E true ih = wp (mb env ih) Q E := rfl
theorem kk_andV0 : k_andV mb env Q E false ih = Q (.bl false) ih := rfl
theorem wp_orV : wp (m_orV ma mb env ih) Q E = wp (ma env ih) (k_tb (k_orV mb env Q E)) E := by
  unfold m_orV
  rw [wp_bind]
  congr 1
  funext v ih
  cases v with
  | bl b => cases b <;> rfl
  | _ => rfl
theorem kk_orV1 : k_orV mb env Q E true ih = Q (.bl true) ih := rfl
theorem kk_orV0 : k_orV mb env Q E false ih = wp (mb env ih) Q E := rfl
theorem wp_notV : wp (m_notV ma env ih) Q E = wp (ma env ih) (k_tb (k_notV Q)) E := by
  unfold m_notV
  rw [wp_bind]
  congr 1
  funext v ih
  cases v <;> rfl
theorem kk_notV : k_notV Q b ih = Q (.bl !b) ih := rfl
theorem wp_noneS : wp (m_none env ih) QO E = QO none ih := rfl
theorem wp_some : wp (m_some ma env ih) QO E = wp (ma env ih) (k_some QO) E := by
  unfold m_some
  rw [wp_bind]
  congr 1
  funext v ih
  cases v <;> rfl
theorem kk_some : k_some QO (.int i) ih = QO (some i) ih := rfl
theorem wp_sl : wp (m_sl ma ml mh env ih) Q E = wp (ma env ih) (k_sl ml mh env Q E) E := by
  unfold m_sl
  rw [wp_bind]
  simp only [wp_bind]
  rfl
theorem kk_sl : k_sl ml mh env Q E x ih = wp (ml env ih) (k_sl2 x mh env Q E) E := rfl
theorem kk_sl2 {l : Option Int} : k_sl2 x mh env Q E l ih = wp (mh env ih) (k_sl3 x l Q E) E := rfl
theorem kk_sl3 {l h : Option Int} : k_sl3 x l Q E h ih = wp (f_sl x l h ih) Q E := rfl
theorem wp_mL {f : IV → List IV → IH → Res IV} : wp (m_mL f ma mr env ih) Q E = wp (ma env ih) (k_mL f mr env Q E) E := by
  unfold m_mL
  rw [wp_bind]
  congr 1
  funext v ih
  unfold k_mL
  by_cases h : isLst v ih = true
  · rw [if_pos h, wp_bind, eq_true h, true_and]
    rfl
  · rw [if_neg h, eq_false h, false_and]
    rfl
theorem kk_mL {f : IV → List IV → IH → Res IV} : k_mL f mr env Q E x ih = (isLst x ih = true ∧ wp (mr env ih) (k_mL2 f x Q E) E) := rfl
theorem kk_mL2 {f : IV → List IV → IH → Res IV} : k_mL2 f x Q E xs ih = wp (f x xs ih) Q E := rfl
theorem wp_mL0 {f : IV → List IV → IH → Res IV} : wp (m_mL0 f ma env ih) Q E = wp (ma env ih) (k_mL0 f Q E) E := by
  unfold m_mL0
  rw [wp_bind]
  congr 1
  funext v ih
  unfold k_mL0
  by_cases h : isLst v ih = true
  · rw [if_pos h, eq_true h, true_and]
  · rw [if_neg h, eq_false h, false_and]
    rfl
theorem kk_mL0 {f : IV → List IV → IH → Res IV} : k_mL0 f Q E x ih = (isLst x ih = true ∧ wp (f x [] ih) Q E) := rfl
theorem wp_chain : wp (m_chain f g ma mb mc env ih) Q E = wp (ma env ih) (k_ch f g mb mc env Q E) E := by
  unfold m_chain
  rw [wp_bind]
  congr 1
  funext x ih
  rw [wp_bind]
  unfold k_ch
  congr 1
  funext y ih
  rw [wp_bind]
  unfold k_ch2
  congr 1
  funext z ih
  cases z with
  | bl k =>
    cases k with
    | true =>
      show wp (if true = true then (mc env ih).bind _ else _) Q E = _
      rw [if_pos rfl, wp_bind]
      rfl
    | false => rfl
  | _ => rfl
theorem kk_ch : k_ch f g mb mc env Q E x ih = wp (mb env ih) (k_ch2 f g x mc env Q E) E := rfl
theorem kk_ch2 : k_ch2 f g x mc env Q E y ih = wp (f x y ih) (k_tb (k_ch3 g y mc env Q E)) E := rfl
theorem kk_ch31 : k_ch3 g y mc env Q E true ih = wp (mc env ih) (k_un (g y) Q E) E := rfl
theorem kk_ch30 : k_ch3 g y mc env Q E false ih = Q (.bl false) ih := rfl
-- statements
theorem ws_set {g : IV → Env → IH → Option Env} : ws (ms_set g ma env ih) S F = wp (ma env ih) (ks_set g env S) (kE F env) := by
  unfold ms_set
  rw [ws_stm]
  congr 1
  funext v ih
  unfold ks_set
  cases g v env ih <;> rfl
theorem kks_nm : ks_set (g_nm n) env S v ih = S (.next (env.set n (some v))) ih := rfl
def ks_g (S : SQ) (ih : IH) : Option Env → Prop
  | some env => S (.next env) ih
  | none => False
theorem kks_g {S : SQ} {env : Env} : ks_g S ih (some env) = S (.next env) ih := rfl
theorem kks_tup {f : List IV → Env → IH → Option Env} : ks_set (g_tup n f) env S v ih = ks_g S ih (g_tup n f v env ih) := by
  unfold ks_set
  cases g_tup n f v env ih <;> rfl
theorem kks_lst {f : List IV → Env → IH → Option Env} : ks_set (g_lst n f) env S v ih = ks_g S ih (g_lst n f v env ih) := by
  unfold ks_set
  cases g_lst n f v env ih <;> rfl
theorem ws_expr : ws (ms_expr ma env ih) S F = wp (ma env ih) (ks_expr env S) (kE F env) := by
  unfold ms_expr
  rw [ws_stm]
  rfl
theorem kks_expr : ks_expr env S v ih = S (.next env) ih := rfl
theorem ws_ret : ws (ms_ret ma env ih) S F = wp (ma env ih) (ks_ret S) (kE F env) := by
  unfold ms_ret
  rw [ws_stm]
  rfl
theorem kks_ret : ks_ret S v ih = S (.ret v) ih := rfl
theorem ws_retN : ws (ms_retN env ih) S F = S (.ret .non) ih := rfl
theorem ws_pass : ws (ms_pass env ih) S F = S (.next env) ih := rfl
theorem ws_brk : ws (ms_brk env ih) S F = S (.brk env) ih := rfl
theorem ws_cont : ws (ms_cont env ih) S F = S (.cont env) ih := rfl
theorem ws_raise : ws (ms_raise c env ih) S F = F c env ih := rfl
theorem ws_if : ws (ms_if mt sa sb env ih) S F = wp (mt env ih) (ks_if sa sb env S F) (kE F env) := by
  unfold ms_if
  rw [ws_stm]
  congr 1
  funext b ih
  cases b <;> rfl
theorem kks_if1 : ks_if sa sb env S F true ih = ws (sa env ih) S F := rfl
theorem kks_if0 : ks_if sa sb env S F false ih = ws (sb env ih) S F := rfl
theorem ws_seq : ws (ms_seq sa sb env ih) S F = ws (sa env ih) (ks_seq sb S F) F := by
  unfold ms_seq
  cases sa env ih with
  | ok f ih =>
    cases f <;> rfl
  | exc c env ih => rfl
  | stuck => rfl
theorem kks_next : ks_seq sb S F (.next env) ih = ws (sb env ih) S F := rfl
theorem kks_retS : ks_seq sb S F (.ret v) ih = S (.ret v) ih := rfl
theorem kks_brk : ks_seq sb S F (.brk env) ih = S (.brk env) ih := rfl
theorem kks_cont : ks_seq sb S F (.cont env) ih = S (.cont env) ih := rfl
def k_augE (i : Nat) (f : IV → IV → IH → Res IV) (m : Env → IH → Res IV) (env : Env) (ih : IH) (S : SQ) (F : ES) : Option (Option IV) → Prop
  | some (some x) => wp (m env ih) (ks_aug i f x env S F) (kE F env)
  | _ => False
theorem kk_augE : k_augE n f ma env ih S F (some (some x)) = wp (ma env ih) (ks_aug n f x env S F) (kE F env) := rfl
theorem ws_aug : ws (ms_aug n f ma env ih) S F = k_augE n f ma env ih S F env[n]? := by
  unfold ms_aug
  cases e : env[n]? with
  | none => rfl
  | some a =>
    cases a with
    | none => rfl
    | some x =>
      show ws ((ma env ih).stm env _) S F = _
      rw [ws_stm]
      simp only [ws_stm]
      rfl
theorem kks_aug : ks_aug n f x env S F y ih = wp (f x y ih) (ks_aug2 n env S) (kE F env) := rfl
theorem kks_aug2 : ks_aug2 n env S v ih = S (.next (env.set n (some v))) ih := rfl
theorem ws_par : ws (ms_par n m mr env ih) S F = wp (mr env ih) (ks_par n m env S) (kE F env) := by
  unfold ms_par
  rw [ws_stm]
  congr 1
  funext vs ih
  rcases vs with _ | ⟨a, _ | ⟨z, _ | ⟨y, r⟩⟩⟩ <;> rfl
theorem kks_par : ks_par n m env S [v, w] ih = S (.next ((env.set n (some v)).set m (some w))) ih := rfl
theorem ws_setL {m mo mi : Env → IH → Res IV} : ws (ms_setL m mo mi env ih) S F = wp (m env ih) (ks_sl mo mi env S F) (kE F env) := by
  unfold ms_setL
  rw [ws_stm]
  congr 1
  funext v ih
  rw [ws_stm]
  unfold ks_sl
  congr 1
  funext o ih
  rw [ws_stm]
  unfold ks_sl2
  congr 1
  funext i ih
  unfold ks_sl3 ks_sl4
  cases f_setL o i v ih <;> rfl
theorem kks_sl {mo mi : Env → IH → Res IV} : ks_sl mo mi env S F v ih = wp (mo env ih) (ks_sl2 v mi env S F) (kE F env) := rfl
theorem kks_sl2 {mi : Env → IH → Res IV} : ks_sl2 v mi env S F w ih = wp (mi env ih) (ks_sl3 v w env S) (kE F env) := rfl
theorem kks_sl3 : ks_sl3 v (.ref n) env S (.int i) ih = k_setL n i v env S ih ih[n]? := by
  unfold ks_sl3 ks_sl4 f_setL k_setL
  dsimp only
  cases ih[n]? with
  | none => rfl
  | some o =>
    cases o with
    | lst xs =>
      dsimp only
      cases ixN xs.length i <;> rfl
    | _ => rfl
theorem kk_setL : k_setL n i v env S ih (some (.lst xs)) = k_setL n i v env S ih (some (.lst xs)) := rfl
theorem wp_def {sm : Env → IH → RS} : wp (defRun n sm xs ih) Q E = ws (sm (startI n xs) ih) (kd Q) (kdE E) := by
  unfold defRun
  cases sm (startI n xs) ih with
  | ok f ih =>
    cases f <;> rfl
  | exc c env ih => rfl
  | stuck => rfl
theorem kkd_ret : kd Q (.ret v) ih = Q v ih := rfl
theorem kkd_next : kd Q (.next env) ih = Q .non ih := rfl
theorem kkdE : kdE E c env ih = E c ih := rfl
theorem kkE : kE F env c ih = F c env ih := rfl
-- loops
theorem ws_for {mi : Env → IH → Res Src} {g : IV → Env → IH → Option Env} : ws (ms_for mi g sa env ih) S F = wp (mi env ih) (ks_for g sa env S F) (kE F env) := by
  unfold ms_for
  rw [ws_stm]
  rfl
theorem wp_lc {vs : List Nat} {mi : Env → IH → Res Src} {g : IV → Env → IH → Option Env} : wp (m_lc vs mi g mt ma env ih) Q E = wp (mi env ih) (k_lc vs g mt ma env Q E) E := by
  unfold m_lc
  rw [wp_bind]
  rfl
theorem wp_r1 : wp (mi_rng1 mr env ih) QS E = wp (mr env ih) (k_r1 QS) E := by
  unfold mi_rng1
  rw [wp_bind]
  congr 1
  funext vs ih
  rcases vs with _ | ⟨a, _ | ⟨z, r⟩⟩
  · rfl
  · cases a with
    | int j =>
      show wp (if smallI j = true then _ else _) QS E = (smallI j = true ∧ _)
      by_cases h : smallI j = true
      · rw [if_pos h, eq_true h, true_and]
        rfl
      · rw [if_neg h, eq_false h, false_and]
        rfl
    | _ => rfl
  · cases a <;> rfl
theorem kk_r1 : k_r1 QS [.int j] ih = (smallI j = true ∧ QS (.rng 0 1 j.toNat) ih) := rfl
theorem wp_r2 : wp (mi_rng2 mr env ih) QS E = wp (mr env ih) (k_r2 QS) E := by
  unfold mi_rng2
  rw [wp_bind]
  congr 1
  funext vs ih
  rcases vs with _ | ⟨a, _ | ⟨z, _ | ⟨y, r⟩⟩⟩
  · rfl
  · cases a <;> rfl
  · cases a with
    | int i =>
      cases z with
      | int j =>
        show wp (if smallI i = true ∧ smallI j = true then _ else _) QS E = ((smallI i = true ∧ smallI j = true) ∧ _)
        by_cases h : smallI i = true ∧ smallI j = true
        · rw [if_pos h, eq_true h, true_and]
          rfl
        · rw [if_neg h, eq_false h, false_and]
          rfl
      | _ => rfl
    | _ => rfl
  · cases a <;> cases z <;> rfl
theorem kk_r2 : k_r2 QS [.int i, .int j] ih = ((smallI i = true ∧ smallI j = true) ∧ QS (.rng i 1 (j - i).toNat) ih) := rfl
def k_r3 (Q : PQ Src) : PQ (List IV) := fun vs ih => match vs with
  | [.int i, .int j, .int k] => (k = -1 ∧ smallI i = true ∧ smallI j = true) ∧ Q (.rng i (-1) (i - j).toNat) ih
  | _ => False
theorem wp_r3 : wp (mi_rng3 mr env ih) QS E = wp (mr env ih) (k_r3 QS) E := by
  unfold mi_rng3
  rw [wp_bind]
  congr 1
  funext vs ih
  rcases vs with _ | ⟨a, _ | ⟨z, _ | ⟨y, _ | ⟨x, r⟩⟩⟩⟩
  · rfl
  · cases a <;> rfl
  · cases a <;> cases z <;> rfl
  · cases a with
    | int i =>
      cases z with
      | int j =>
        cases y with
        | int k =>
          show wp (if k = -1 ∧ smallI i = true ∧ smallI j = true then _ else _) QS E = ((k = -1 ∧ smallI i = true ∧ smallI j = true) ∧ _)
          by_cases h : k = -1 ∧ smallI i = true ∧ smallI j = true
          · rw [if_pos h, eq_true h, true_and]
            rfl
          · rw [if_neg h, eq_false h, false_and]
            rfl
        | _ => rfl
      | _ => rfl
    | _ => rfl
  · cases a <;> cases z <;> cases y <;> rfl
theorem kk_r3 {k : Int} : k_r3 QS [.int i, .int j, .int k] ih = ((k = -1 ∧ smallI i = true ∧ smallI j = true) ∧ ∀ n, n = (i - j).toNat → QS (.rng i (-1) n) ih) := by
  rw [forall_eq]
  rfl
theorem wp_il : wp (mi_lst ma env ih) QS E = wp (ma env ih) (k_il QS) E := by
  unfold mi_lst
  rw [wp_bind]
  congr 1
  funext v ih
  cases v with
  | ref n =>
    show wp (match lAt ih n true with
      | some _ => _
      | none => _) QS E = k_il2 n QS ih (lAt ih n true)
    cases lAt ih n true <;> rfl
  | _ => rfl
theorem wp_it : wp (mi_tup ma env ih) QS E = wp (ma env ih) (k_it QS) E := by
  unfold mi_tup
  rw [wp_bind]
  congr 1
  funext v ih
  cases v with
  | ref n =>
    show wp (match lAt ih n false with
      | some _ => _
      | none => _) QS E = k_it2 n QS ih (lAt ih n false)
    cases lAt ih n false <;> rfl
  | _ => rfl
theorem wp_ie : wp (mi_enm mr env ih) QS E = wp (mr env ih) (k_ie QS) E := by
  unfold mi_enm
  rw [wp_bind]
  congr 1
  funext v ih
  rcases v with _ | ⟨a, _ | ⟨z, r⟩⟩
  · rfl
  · cases a with
    | ref n =>
      show wp (match lAt ih n true with
        | some _ => _
        | none => _) QS E = k_ie2 n QS ih (lAt ih n true)
      cases lAt ih n true <;> rfl
    | _ => rfl
  · cases a <;> rfl
theorem wp_iz : wp (mi_zip mr env ih) QS E = wp (mr env ih) (k_iz QS) E := by
  unfold mi_zip
  rw [wp_bind]
  congr 1
  funext v ih
  rcases v with _ | ⟨a, _ | ⟨z, _ | ⟨y, r⟩⟩⟩
  · rfl
  · cases a <;> rfl
  · cases a with
    | ref n =>
      cases z with
      | ref k =>
        show wp (match lAt ih n true, lAt ih k true with
          | some _, some _ => _
          | _, _ => _) QS E = k_iz2 n k QS ih (lAt ih n true) (lAt ih k true)
        cases lAt ih n true <;> cases lAt ih k true <;> rfl
      | _ => rfl
    | _ => rfl
  · cases a <;> cases z <;> rfl
theorem kk_il : k_il QS (.ref n) ih = k_il2 n QS ih (lAt ih n true) := rfl
theorem kk_il2 : k_il2 n QS ih (some xs) = QS (.lst n) ih := rfl
theorem kk_it : k_it QS (.ref n) ih = k_it2 n QS ih (lAt ih n false) := rfl
theorem kk_it2 : k_it2 n QS ih (some xs) = QS (.tup n) ih := rfl
theorem kk_ie : k_ie QS [.ref n] ih = k_ie2 n QS ih (lAt ih n true) := rfl
theorem kk_ie2 : k_ie2 n QS ih (some xs) = QS (.enm n) ih := rfl
theorem kk_iz : k_iz QS [.ref n, .ref m] ih = k_iz2 n m QS ih (lAt ih n true) (lAt ih m true) := rfl
theorem kk_iz2 {ys : List IV} : k_iz2 n m QS ih (some xs) (some ys) = QS (.zip n m) ih := rfl
def k_lAt (l : Bool) : Option MO → Option (List IV)
  | some o => if o.isK l = true then some o.xs else none
  | none => none
theorem lAt_k {l : Bool} : lAt ih n l = k_lAt l ih[n]? := by
  unfold lAt k_lAt
  cases ih[n]? <;> rfl
theorem k_lAtL : k_lAt true (some (.lst xs)) = some xs := rfl
theorem k_lAtO : k_lAt true (some (.ro xs)) = some xs := rfl
theorem k_lAtT : k_lAt false (some (.tup xs)) = some xs := rfl
-- operations
theorem wp_int : wp (f_int [.int i] ih) Q E = Q (.int i) ih := rfl
theorem wp_add : wp (f_add (.int i) (.int j) ih) Q E = Q (.int (i + j)) ih := rfl
theorem wp_addI : wp (f_addI (.int i) (.int j) ih) Q E = Q (.int (i + j)) ih := rfl
theorem wp_sub : wp (f_sub (.int i) (.int j) ih) Q E = Q (.int (i - j)) ih := rfl
theorem wp_neg : wp (f_neg (.int i) ih) Q E = Q (.int (-i)) ih := rfl
theorem wp_lt : wp (f_lt (.int i) (.int j) ih) Q E = Q (.bl (decide (i < j))) ih := rfl
theorem wp_le : wp (f_le (.int i) (.int j) ih) Q E = Q (.bl (decide (i ≤ j))) ih := rfl
theorem wp_gt : wp (f_gt (.int i) (.int j) ih) Q E = Q (.bl (decide (j < i))) ih := rfl
theorem wp_ge : wp (f_ge (.int i) (.int j) ih) Q E = Q (.bl (decide (j ≤ i))) ih := rfl
theorem wp_max2 : wp (f_max2 [.int i, .int j] ih) Q E = Q (.int (if j > i then j else i)) ih := rfl
theorem wp_min2 : wp (f_min2 [.int i, .int j] ih) Q E = Q (.int (if j < i then j else i)) ih := rfl
theorem wp_abs : wp (f_abs [.int i] ih) Q E = Q (.int (if i < 0 then -i else i)) ih := rfl
theorem wp_I {C : Int → Int → Bool} {g : Int → Int → IV} : wp (f_I C g (.int i) (.int j) ih) Q E = (C i j = true ∧ Q (g i j) ih) := by
  unfold f_I
  dsimp only
  by_cases h : C i j = true
  · rw [if_pos h, eq_true h, true_and]
    rfl
  · rw [if_neg h, eq_false h, false_and]
    rfl
theorem wp_mulI : wp (f_mul (.int i) (.int j) ih) Q E = (cMul i j = true ∧ Q (.int (i * j)) ih) := wp_I
theorem wp_mul : wp (f_mulA (.int i) (.int j) ih) Q E = (cMul i j = true ∧ Q (.int (i * j)) ih) := by
  show wp (if cMul i j = true then _ else _) Q E = _
  by_cases h : cMul i j = true
  · rw [if_pos h, eq_true h, true_and]
    rfl
  · rw [if_neg h, eq_false h, false_and]
    rfl
theorem wp_fdiv : wp (f_fdiv (.int i) (.int j) ih) Q E = (cDiv i j = true ∧ Q (.int (i / j)) ih) := wp_I
theorem wp_mod : wp (f_mod (.int i) (.int j) ih) Q E = (0 < j ∧ Q (.int (i % j)) ih) := by
  refine wp_I.trans ?_
  unfold cMod
  rw [decide_eq_true_eq]
theorem wp_shl : wp (f_shl (.int i) (.int j) ih) Q E = (cShl i j = true ∧ Q (.int (i * 2 ^ j.toNat)) ih) := wp_I
theorem wp_shr : wp (f_shr (.int i) (.int j) ih) Q E = (0 ≤ j ∧ Q (.int (i / 2 ^ j.toNat)) ih) := by
  refine wp_I.trans ?_
  unfold cShr
  rw [decide_eq_true_eq]
theorem wp_pow : wp (f_pow (.int i) (.int j) ih) Q E = (cPow i j = true ∧ Q (.int (i ^ j.toNat)) ih) := wp_I
theorem wp_isN : wp (f_isN x .non ih) Q E = Q (.bl (decide (x = .non))) ih := rfl
theorem wp_notN : wp (f_notN x .non ih) Q E = Q (.bl (!decide (x = .non))) ih := rfl
theorem wp_eqI : wp (f_eq (.int i) (.int j) ih) Q E = Q (.bl (decide (i = j))) ih := by
  rw [a_eq_int]
  rfl
theorem wp_neI : wp (f_ne (.int i) (.int j) ih) Q E = Q (.bl (!decide (i = j))) ih := by
  rw [a_ne_int]
  rfl
theorem wp_ix : wp (f_ix (.ref n) (.int i) ih) Q E = k_ix i Q ih ih[n]? := by
  unfold f_ix
  dsimp only
  cases ih[n]? with
  | none => rfl
  | some o =>
    show wp (match atI o.xs i with
      | some v => _
      | none => _) Q E = k_ix2 Q ih (atI o.xs i)
    cases atI o.xs i <;> rfl
theorem kk_ix : k_ix i Q ih (some o) = k_ix2 Q ih (atI o.xs i) := rfl
theorem kk_ix2 : k_ix2 Q ih (some v) = Q v ih := rfl
theorem wp_len : wp (f_len [.ref n] ih) Q E = k_len Q ih ih[n]? := by
  unfold f_len
  dsimp only
  cases ih[n]? with
  | none => rfl
  | some o => cases o <;> rfl
theorem kk_lenL : k_len Q ih (some (.lst xs)) = Q (.int xs.length) ih := rfl
theorem kk_lenT : k_len Q ih (some (.tup xs)) = Q (.int xs.length) ih := rfl
theorem kk_lenO : k_len Q ih (some (.ro xs)) = Q (.int xs.length) ih := rfl
theorem kk_lenP : k_len Q ih (some (.rot xs)) = Q (.int xs.length) ih := rfl
theorem wp_appd : wp (f_append (.ref n) [y] ih) Q E = k_app1 n y Q ih ih[n]? := by
  unfold f_append
  dsimp only
  cases ih[n]? with
  | none => rfl
  | some o =>
    cases o with
    | lst xs =>
      show wp (if xs.length < 100000 then _ else _) Q E = (xs.length < 100000 ∧ _)
      by_cases h : xs.length < 100000
      · rw [if_pos h, eq_true h, true_and]
        rfl
      · rw [if_neg h, eq_false h, false_and]
        rfl
    | _ => rfl
theorem kk_app1 : k_app1 n y Q ih (some (.lst xs)) = (xs.length < 100000 ∧ Q .non (ih.set n (.lst (xs ++ [y])))) := rfl
def k_isL : Option MO → Bool
  | some o => o.isL
  | none => false
theorem isL_k : isLst (.ref n) ih = k_isL ih[n]? := by
  show (match ih[n]? with
    | some o => o.isL
    | none => false) = k_isL ih[n]?
  cases ih[n]? <;> rfl
theorem kk_isL : k_isL (some o) = o.isL := rfl
-- by hand: new objects
theorem wp_lst (hl : xs.length ≤ 100000) (k : Q (.ref ih.length) (ih ++ [.lst xs])) : wp (f_lst xs ih) Q E := by
  rw [a_lst hl]
  exact k
theorem wp_tup (hl : xs.length ≤ 100000) (k : Q (.ref ih.length) (ih ++ [.tup xs])) : wp (f_tup xs ih) Q E := by
  rw [a_tup hl]
  exact k
theorem wp_list (h : ih[n]? = some o) (k : Q (.ref ih.length) (ih ++ [.lst o.xs])) (hd : o.isS = true := by rfl) : wp (f_list [.ref n] ih) Q E := by
  rw [a_list h hd]
  exact k
/-- a choice out of a list -/
theorem wp_pick (h : ih[n]? = some o) (h0 : 0 ≤ i) (h1 : i < (o.xs.length : Int)) (k : ∀ v ∈ o.xs, Q v ih) : wp (f_ix (.ref n) (.int i) ih) Q E := by
  obtain ⟨m, rfl⟩ := Int.eq_ofNat_of_zero_le h0
  have hm : m < o.xs.length := by omega
  rw [a_ix h (v := o.xs[m]) (by rw [atI_nn]; exact List.getElem?_eq_getElem hm)]
  exact k _ (List.getElem_mem hm)
theorem wp_eq {d e : PyData} (h1 : Is ih x d) (h2 : Is ih y e) (s1 : SeqAt.shaped d = true) (s2 : SeqAt.shaped e = true) (k : Q (.bl (PyData.eqv d e)) ih) : wp (f_eq x y ih) Q E := by
  rw [f_eq_of h1 h2 s1 s2]
  exact k
theorem wp_ne {d e : PyData} (h1 : Is ih x d) (h2 : Is ih y e) (s1 : SeqAt.shaped d = true) (s2 : SeqAt.shaped e = true) (k : Q (.bl (!PyData.eqv d e)) ih) : wp (f_ne x y ih) Q E := by
  rw [f_ne_of h1 h2 s1 s2]
  exact k
theorem wp_isi {T t : String} (h : tyN x ih = some t) (k : kitB t T = some b) (q : Q (.bl b) ih) : wp (f_isi [x, .ty T] ih) Q E := by
  unfold f_isi
  dsimp only
  rw [h]
  dsimp only
  rw [k]
  exact q
-- both ways
theorem dec_if [Decidable p] {ma mb : Env → IH → Res α} {Q : PQ α} (h1 : p → k_if ma mb env Q E true ih) (h0 : ¬ p → k_if ma mb env Q E false ih) : k_if ma mb env Q E (decide p) ih := by
  by_cases h : p
  · rw [decide_eq_true h]; exact h1 h
  · rw [decide_eq_false h]; exact h0 h
theorem dec_ifs [Decidable p] (h1 : p → ks_if sa sb env S F true ih) (h0 : ¬ p → ks_if sa sb env S F false ih) : ks_if sa sb env S F (decide p) ih := by
  by_cases h : p
  · rw [decide_eq_true h]; exact h1 h
  · rw [decide_eq_false h]; exact h0 h
end
end L3
/-! L8: loops and lists, run backwards. -/
namespace L3
open PySem PySem.Spec PyProof.Rows L2
/-- all but p, and what is new, is as before -/
abbrev Fr (p : Nat) (ih ih' : IH) : Prop := ∀ n, n < ih.length → n ≠ p → ih'[n]? = ih[n]?
abbrev Fx (ih ih' : IH) : Prop := ∀ n, n < ih.length → ih'[n]? = ih[n]?
theorem g_new {ih : IH} {o : MO} : (ih ++ [o])[ih.length]? = some o := get_new _ _
theorem g_nw {ih : IH} {o : MO} {n : Nat} (h : n = ih.length) : (ih ++ [o])[n]? = some o := h ▸ get_new _ _
theorem g_old {ih : IH} {o : MO} {n : Nat} (h : n < ih.length) : (ih ++ [o])[n]? = ih[n]? := List.getElem?_append_left h
theorem g_set {ih : IH} {o : MO} {n : Nat} (h : n < ih.length) : (ih.set n o)[n]? = some o := List.getElem?_set_self h
theorem g_sne {ih : IH} {o : MO} {n m : Nat} (h : m ≠ n) : (ih.set m o)[n]? = ih[n]? := List.getElem?_set_ne h
theorem Fr.refl {p : Nat} {ih : IH} : Fr p ih ih := fun _ _ _ => rfl
theorem Fx.refl {ih : IH} : Fx ih ih := fun _ _ => rfl
theorem Fx.fr {p : Nat} {a b : IH} (h : Fx a b) : Fr p a b := fun n l _ => h n l
theorem Fr.trans {p : Nat} {a b c : IH} (h : Fr p a b) (k : Fr p b c) (l : a.length ≤ b.length) : Fr p a c := fun n h1 h2 => by rw [k n (by omega) h2, h n h1 h2]
theorem Fx.trans {a b c : IH} (h : Fx a b) (k : Fx b c) (l : a.length ≤ b.length) : Fx a c := fun n h1 => by rw [k n (by omega), h n h1]
theorem Fx.app {a : IH} {o : MO} : Fx a (a ++ [o]) := fun n h => g_old h
theorem Fx.ext {a b : IH} (h : Fx a b) : Ext a b := fun n o e => by rw [h n (lt_of_get e)]; exact e
theorem Ext.fx {a b : IH} (h : Ext a b) : Fx a b := fun n l => by
  rw [List.getElem?_eq_getElem l]
  exact h n _ (List.getElem?_eq_getElem l)
theorem Fx.set {a b : IH} {n : Nat} {o : MO} (h : Fx a b) (l : a.length ≤ n) : Fx a (b.set n o) := fun m hm => by
  rw [g_sne (by omega)]
  exact h m hm
theorem Fr.set {p : Nat} {a b : IH} {n : Nat} {o : MO} (h : Fr p a b) (l : a.length ≤ n) : Fr p a (b.set n o) := fun m hm hp => by
  rw [g_sne (by omega)]
  exact h m hm hp
theorem Fr.setp {p : Nat} {a b : IH} {o : MO} (h : Fr p a b) : Fr p a (b.set p o) := fun m hm hp => by
  rw [g_sne (by omega)]
  exact h m hm hp
/-- a loop's body -/
def kf (P : Env → IH → Prop) (S : SQ) : SQ := fun f ih => match f with
  | .next e => P e ih
  | .cont e => P e ih
  | .brk e => S (.next e) ih
  | .ret v => S (.ret v) ih
section
variable {P : Env → IH → Prop} {S : SQ} {F : ES} {env : Env} {ih : IH} {v : IV}
/-- what holds behind a turn -/
def Inv (P : Env → IH → Prop) (env : Env) (ih : IH) : Prop := P env ih
theorem Inv.mk (h : P env ih) : Inv P env ih := h
theorem kf_next : kf P S (.next env) ih = Inv P env ih := rfl
theorem kf_cont : kf P S (.cont env) ih = Inv P env ih := rfl
theorem kf_brk : kf P S (.brk env) ih = S (.next env) ih := rfl
theorem kf_ret : kf P S (.ret v) ih = S (.ret v) ih := rfl
theorem ws_loop {r : RS} {k : Env → IH → RS} (h : ws r (kf P S) F) (hk : ∀ env ih, P env ih → ws (k env ih) S F) : ws (r.loop k) S F := by
  cases r with
  | ok f ih =>
    cases f with
    | next e => exact hk _ _ h
    | cont e => exact hk _ _ h
    | brk e => exact h
    | ret v => exact h
  | exc c e ih => exact h
  | stuck => exact h
theorem go_ind {s : Src} {g : IV → Env → IH → Option Env} {mb : Env → IH → RS} (k : Nat) (P : Nat → Env → IH → Prop)
    (turn : ∀ i env ih, i < k → P i env ih → ∃ v ih1 env1, s.turn i ih = .item v ih1 ∧ g v env ih1 = some env1 ∧ ws (mb env1 ih1) (kf (P (i + 1)) S) F)
    (stop : ∀ env ih, P k env ih → s.turn k ih = .stop ∧ S (.next env) ih) : ∀ (f i : Nat) (env : Env) (ih : IH), i ≤ k → k - i < f → P i env ih → ws (forGo s g mb f i env ih) S F := by
  intro f
  induction f with
  | zero => intro i env ih h1 h2; omega
  | succ f hf =>
    intro i env ih h1 h2 hP
    unfold forGo
    by_cases hi : i = k
    · subst hi
      obtain ⟨e1, e2⟩ := stop env ih hP
      rw [e1]
      exact e2
    · obtain ⟨v, ih1, env1, e1, e2, e3⟩ := turn i env ih (by omega) hP
      rw [e1]
      dsimp only
      rw [e2]
      exact ws_loop e3 fun env2 ih2 h => hf (i + 1) env2 ih2 (by omega) (by omega) h
/-- for x in range -/
theorem for_rng {mb : Env → IH → RS} {x : Nat} {lo d : Int} {k : Nat} (P : Nat → Env → IH → Prop) (h0 : P 0 env ih)
    (step : ∀ i env ih, i < k → P i env ih → ws (mb (env.set x (some (.int (lo + (i : Int) * d)))) ih) (kf (P (i + 1)) S) F) (fin : ∀ env ih, P k env ih → S (.next env) ih) : ks_for (g_nm x) mb env S F (.rng lo d k) ih :=
  go_ind k P (fun i env ih hi h => ⟨_, _, _, turn_rng hi, rfl, step i env ih hi h⟩) (fun env ih h => ⟨stop_rng, fin env ih h⟩) _ 0 env ih (Nat.zero_le _) (by show k - 0 < k + 1; omega) h0
theorem for_rng0 {mb : Env → IH → RS} {x : Nat} {k : Nat} (P : Nat → Env → IH → Prop) (h0 : P 0 env ih)
    (step : ∀ i env ih, i < k → P i env ih → ws (mb (env.set x (some (.int (i : Int)))) ih) (kf (P (i + 1)) S) F) (fin : ∀ env ih, P k env ih → S (.next env) ih) : ks_for (g_nm x) mb env S F (.rng 0 1 k) ih :=
  for_rng P h0 (fun i env ih hi h => by rw [show (0 : Int) + (i : Int) * 1 = (i : Int) by omega]; exact step i env ih hi h) fin
theorem for_rng1' {mb : Env → IH → RS} {x : Nat} {lo : Int} {k : Nat} (P : Nat → Env → IH → Prop) (h0 : P 0 env ih)
    (step : ∀ i env ih, i < k → P i env ih → ws (mb (env.set x (some (.int (lo + (i : Int))))) ih) (kf (P (i + 1)) S) F) (fin : ∀ env ih, P k env ih → S (.next env) ih) : ks_for (g_nm x) mb env S F (.rng lo 1 k) ih :=
  for_rng P h0 (fun i env ih hi h => by rw [show lo + (i : Int) * 1 = lo + (i : Int) by omega]; exact step i env ih hi h) fin
/-- for x in a list that stays -/
theorem for_lstG {g : IV → Env → IH → Option Env} {mb : Env → IH → RS} {n : Nat} {o : MO} (P : Nat → Env → IH → Prop) (hg : ih[n]? = some o) (hl : o.isL = true) (h0 : P 0 env ih) (ho : ∀ i env ih, P i env ih → ih[n]? = some o)
    (step : ∀ i v env ih, o.xs[i]? = some v → P i env ih → ∃ env1, g v env ih = some env1 ∧ ws (mb env1 ih) (kf (P (i + 1)) S) F) (fin : ∀ env ih, P o.xs.length env ih → S (.next env) ih) : ks_for g mb env S F (.lst n) ih :=
  go_ind o.xs.length P (fun i env ih hi h => by
    obtain ⟨env1, e1, e2⟩ := step i _ env ih (List.getElem?_eq_getElem hi) h
    exact ⟨_, _, env1, turn_lst (ho _ _ _ h) hl (List.getElem?_eq_getElem hi), e1, e2⟩) (fun env ih h => ⟨stop_lst (ho _ _ _ h) hl, fin env ih h⟩) _ 0 env ih (Nat.zero_le _) (by
    show _ < (Src.lst n).size ih + 1
    unfold Src.size
    dsimp only
    rw [hg]
    dsimp only
    omega) h0
theorem for_lst1 {mb : Env → IH → RS} {x n : Nat} {o : MO} (P : Nat → Env → IH → Prop) (hg : ih[n]? = some o) (hl : o.isL = true) (h0 : P 0 env ih) (ho : ∀ i env ih, P i env ih → ih[n]? = some o)
    (step : ∀ i v env ih, o.xs[i]? = some v → P i env ih → ws (mb (env.set x (some v)) ih) (kf (P (i + 1)) S) F) (fin : ∀ env ih, P o.xs.length env ih → S (.next env) ih) : ks_for (g_nm x) mb env S F (.lst n) ih :=
  for_lstG P hg hl h0 ho (fun i v env ih e h => ⟨_, rfl, step i v env ih e h⟩) fin
theorem for_enum {g : IV → Env → IH → Option Env} {mb : Env → IH → RS} {n : Nat} {o : MO} (P : Nat → Env → IH → Prop) (hg : ih[n]? = some o) (hl : o.isL = true) (h0 : P 0 env ih) (ho : ∀ i env ih, P i env ih → ih[n]? = some o)
    (step : ∀ i v env ih, o.xs[i]? = some v → P i env ih → ∃ env1, g (.ref ih.length) env (ih ++ [.tup [.int (i : Int), v]]) = some env1 ∧ ws (mb env1 (ih ++ [.tup [.int (i : Int), v]])) (kf (P (i + 1)) S) F) (fin : ∀ env ih, P o.xs.length env ih → S (.next env) ih) : ks_for g mb env S F (.enm n) ih :=
  go_ind o.xs.length P (fun i env ih hi h => by
    obtain ⟨env1, e1, e2⟩ := step i _ env ih (List.getElem?_eq_getElem hi) h
    exact ⟨_, _, env1, turn_enm (ho _ _ _ h) hl (List.getElem?_eq_getElem hi), e1, e2⟩) (fun env ih h => ⟨stop_enm (ho _ _ _ h) hl, fin env ih h⟩) _ 0 env ih (Nat.zero_le _) (by
    show _ < (Src.enm n).size ih + 1
    unfold Src.size
    dsimp only
    rw [hg]
    dsimp only
    omega) h0
theorem for_zip2 {g : IV → Env → IH → Option Env} {mb : Env → IH → RS} {n m : Nat} {o u : MO} (P : Nat → Env → IH → Prop) (hg : ih[n]? = some o) (hl : o.isL = true) (hl2 : u.isL = true) (h0 : P 0 env ih) (ho : ∀ i env ih, P i env ih → ih[n]? = some o ∧ ih[m]? = some u)
    (step : ∀ i v w env ih, o.xs[i]? = some v → u.xs[i]? = some w → P i env ih → ∃ env1, g (.ref ih.length) env (ih ++ [.tup [v, w]]) = some env1 ∧ ws (mb env1 (ih ++ [.tup [v, w]])) (kf (P (i + 1)) S) F) (fin : ∀ env ih, P (min o.xs.length u.xs.length) env ih → S (.next env) ih) : ks_for g mb env S F (.zip n m) ih :=
  go_ind (min o.xs.length u.xs.length) P (fun i env ih hi h => by
    obtain ⟨env1, e1, e2⟩ := step i _ _ env ih (List.getElem?_eq_getElem (by omega)) (List.getElem?_eq_getElem (by omega)) h
    exact ⟨_, _, env1, turn_zip (ho _ _ _ h).1 hl (List.getElem?_eq_getElem (by omega)) (ho _ _ _ h).2 hl2 (List.getElem?_eq_getElem (by omega)), e1, e2⟩) (fun env ih h => ⟨stop_zip (ho _ _ _ h).1 hl (ho _ _ _ h).2 hl2 (by omega), fin env ih h⟩) _ 0 env ih (Nat.zero_le _) (by
    show _ < (Src.zip n m).size ih + 1
    unfold Src.size
    dsimp only
    rw [hg]
    dsimp only
    omega) h0
/-- while, with what gets less -/
theorem while_ind {n : Env → IH → Res Bool} {mb : Env → IH → RS} (P : Env → IH → Prop) (μ : Env → IH → Nat → Prop)
    (step : ∀ k env ih, P env ih → μ env ih k → wp (n env ih) (fun b ih1 => if b = true then ws (mb env ih1) (kf (fun e i => P e i ∧ ∃ j, j < k ∧ μ e i j) S) F else S (.next env) ih1) (kE F env)) :
    ∀ (f k : Nat) (env : Env) (ih : IH), P env ih → μ env ih k → k < f → ws (whileGo n mb f env ih) S F := by
  intro f
  induction f with
  | zero => intro k env ih _ _ h; omega
  | succ f hf =>
    intro k env ih hP hm hk
    unfold whileGo
    rw [ws_stm]
    refine wp.imp (step k env ih hP hm) (fun b ih1 h => ?_) fun _ _ h => h
    cases b with
    | true =>
      rw [if_pos rfl] at h ⊢
      exact ws_loop h fun env2 ih2 ⟨h1, j, h2, h3⟩ => hf j env2 ih2 h1 h3 (by omega)
    | false => exact h
end
section
variable {Q : PQ IV} {E : EQ} {env : Env} {ih : IH}
theorem k_lAt_of {ih : IH} {n : Nat} {o : MO} (h : ih[n]? = some o) (hl : o.isL = true) : lAt ih n true = some o.xs := lAt_of h hl
/-- [me for x in xs if n] -/
theorem lc_flt {vs : List Nat} {i n : Nat} {mt : Env → IH → Res Bool} {me : Env → IH → Res IV} {o : MO} (F : IV → IV) (T : IV → Bool) (ho : ih[n]? = some o) (hl : o.isL = true) (hz : o.xs.length < 100000)
    (ht : ∀ x ∈ o.xs, ∀ ih', Fx ih ih' → wp (mt ((wipeI env vs).set i (some x)) ih') (fun b ih'' => b = T x ∧ ih'' = ih') E0)
    (he : ∀ x ∈ o.xs, T x = true → ∀ ih', Fx ih ih' → wp (me ((wipeI env vs).set i (some x)) ih') (fun v ih'' => v = F x ∧ ih'' = ih') E0)
    (q : Q (.ref ih.length) (ih ++ [.lst ((o.xs.filter T).map F)])) : k_lc vs (g_nm i) mt me env Q E (.lst n) ih := by
  have h := lc_lst (vs := vs) (m := m_c (.ref n)) (i := i) (n := mt) (me := me) (env := env) (ih := ih) F T rfl ho hl hz (fun x hx ih' e => (ht x hx ih' e.fx).eq) fun x hx t ih' e => (he x hx t ih' e.fx).eq
  have k := wp.of (E := E) h q
  rw [wp_lc, wp_il, wp_c, kk_il, lAt_of ho hl, kk_il2] at k
  exact k
/-- [me for x in xs] -/
theorem lc_all {vs : List Nat} {i n : Nat} {me : Env → IH → Res IV} {o : MO} (F : IV → IV) (ho : ih[n]? = some o) (hl : o.isL = true) (hz : o.xs.length < 100000)
    (he : ∀ x ∈ o.xs, ∀ ih', Fx ih ih' → wp (me ((wipeI env vs).set i (some x)) ih') (fun v ih'' => v = F x ∧ ih'' = ih') E0)
    (q : Q (.ref ih.length) (ih ++ [.lst (o.xs.map F)])) : k_lc vs (g_nm i) n_yes me env Q E (.lst n) ih := by
  have h := lc_map (vs := vs) (m := m_c (.ref n)) (i := i) (me := me) (env := env) (ih := ih) F rfl ho hl hz fun x hx ih' e => (he x hx ih' e.fx).eq
  have k := wp.of (E := E) h q
  rw [wp_lc, wp_il, wp_c, kk_il, lAt_of ho hl, kk_il2] at k
  exact k
/-- over a list of ints -/
theorem lc_int {vs : List Nat} {i n : Nat} {me : Env → IH → Res IV} {o : MO} {ns : List Int} (F : Int → IV) (ho : ih[n]? = some o) (hl : o.isL = true) (hx : o.xs = ns.map IV.int) (hz : ns.length < 100000)
    (he : ∀ x ∈ ns, ∀ ih', Fx ih ih' → wp (me ((wipeI env vs).set i (some (.int x))) ih') (fun v ih'' => v = F x ∧ ih'' = ih') E0)
    (q : Q (.ref ih.length) (ih ++ [.lst (ns.map F)])) : k_lc vs (g_nm i) n_yes me env Q E (.lst n) ih := by
  have e : (ns.map IV.int).map (fun | .int k => F k | _ => .non) = ns.map F := by rw [List.map_map]; rfl
  refine lc_all (fun | .int k => F k | _ => .non) ho hl (by rw [hx, List.length_map]; exact hz) (fun x hx' ih' f => ?_) (by rw [hx, e]; exact q)
  rw [hx] at hx'
  obtain ⟨k, hk, rfl⟩ := List.mem_map.mp hx'
  exact he k hk ih' f
/-- [me for i in range(j)] -/
theorem lc_rngW {vs : List Nat} {i : Nat} {me : Env → IH → Res IV} {j : Nat} (F : Nat → IV) (hz : j < 100000)
    (he : ∀ k, k < j → ∀ ih', Fx ih ih' → wp (me ((wipeI env vs).set i (some (.int (k : Int)))) ih') (fun v ih'' => v = F k ∧ ih'' = ih') E0)
    (q : Q (.ref ih.length) (ih ++ [.lst ((List.range j).map F)])) : k_lc vs (g_nm i) n_yes me env Q E (.rng 0 1 j) ih := by
  have sj : smallI (j : Int) = true := smallI_mk (by omega) (by omega)
  have h := lc_rng (vs := vs) (m := fun _ ih => .ok [.int (j : Int)] ih) (i := i) (me := me) (env := env) (ih := ih) (j := (j : Int)) F rfl sj (by omega) fun x hx ih' e => (he x (by omega) ih' e.fx).eq
  rw [Int.toNat_natCast] at h
  have k : wp (m_lc vs (mi_rng1 fun _ ih => .ok [.int (j : Int)] ih) (g_nm i) n_yes me env ih) Q E := by
    rw [h, wp_ok]
    exact q
  rw [wp_lc, wp_r1] at k
  have k2 := k.2
  rw [Int.toNat_natCast] at k2
  exact k2
theorem lc_zipW {vs : List Nat} {i j n m : Nat} {me : Env → IH → Res IV} {o u : MO} (F : IV → IV → IV) (ho : ih[n]? = some o) (hl : o.isL = true) (hu : ih[m]? = some u) (hl2 : u.isL = true) (hz : o.xs.length < 100000)
    (he : ∀ (k : Nat) (x y : IV), o.xs[k]? = some x → u.xs[k]? = some y → ∀ ih', Fx ih ih' → wp (me (((wipeI env vs).set i (some x)).set j (some y)) ih') (fun v ih'' => v = F x y ∧ ih'' = ih') E0)
    (q : ∀ ih', Fx ih ih' → ih.length < ih'.length → ih'[ih.length]? = some (.lst (List.zipWith F o.xs u.xs)) → Q (.ref ih.length) ih') : k_lc vs (g_tup 2 (g_cons (g_nm i) (g_cons (g_nm j) g_nil))) n_yes me env Q E (.zip n m) ih := by
  obtain ⟨ih', h, x, g⟩ := lc_zip (vs := vs) (m := fun _ ih => .ok [.ref n, .ref m] ih) (i := i) (j := j) (me := me) (env := env) (ih := ih) F rfl ho hl hu hl2 hz fun k x y h1 h2 ih' e => (he k x y h1 h2 ih' e.fx).eq
  have k := wp.of (E := E) h (q ih' x.fx (lt_of_get g) g)
  rw [wp_lc, wp_iz] at k
  have k2 : k_iz (k_lc vs (g_tup 2 (g_cons (g_nm i) (g_cons (g_nm j) g_nil))) n_yes me env Q E) [.ref n, .ref m] ih := k
  rw [kk_iz, lAt_of ho hl, lAt_of hu hl2, kk_iz2] at k2
  exact k2
theorem wp_sumW {n : Nat} {o : MO} {ns : List Int} (h : ih[n]? = some o) (hl : o.isL = true) (hx : o.xs = ns.map IV.int) (q : Q (.int ns.sum) ih) : wp (f_sum [.ref n] ih) Q E := wp.of (a_sum h hl hx) q
theorem wp_allW {n : Nat} {o : MO} {ns : List Bool} (h : ih[n]? = some o) (hl : o.isL = true) (hx : o.xs = ns.map IV.bl) (q : Q (.bl (ns.all id)) ih) : wp (f_all [.ref n] ih) Q E := wp.of (a_all h hl hx) q
theorem wp_anyW {n : Nat} {o : MO} {ns : List Bool} (h : ih[n]? = some o) (hl : o.isL = true) (hx : o.xs = ns.map IV.bl) (q : Q (.bl (ns.any id)) ih) : wp (f_any [.ref n] ih) Q E := wp.of (a_any h hl hx) q
theorem wp_slL {n : Nat} {xs : List IV} {lo hi : Option Int} (h : ih[n]? = some (.lst xs)) (q : Q (.ref ih.length) (ih ++ [.lst (cutI xs lo hi)])) : wp (f_sl (.ref n) lo hi ih) Q E := wp.of (a_slL h) q
end
/-- a choice -/
theorem k_pick {Q : PQ IV} {ih : IH} {xs : List IV} {i : Int} (h0 : 0 ≤ i) (h1 : i < (xs.length : Int)) (k : ∀ v ∈ xs, Q v ih) : k_ix2 Q ih (atI xs i) := by
  obtain ⟨m, rfl⟩ := Int.eq_ofNat_of_zero_le h0
  have hm : m < xs.length := by omega
  rw [atI_nn, List.getElem?_eq_getElem hm]
  exact k _ (List.getElem_mem hm)
def allI (P : Int → Prop) : List IV → Prop
  | [] => True
  | .int z :: r => P z ∧ allI P r
  | _ :: _ => False
theorem allI_mem {P : Int → Prop} : ∀ {xs : List IV}, allI P xs → ∀ v ∈ xs, ∃ z, v = .int z ∧ P z
  | [], _, v, h => nomatch h
  | .int z :: r, h, v, hv => by
    rcases List.mem_cons.mp hv with e | e
    · exact ⟨z, e, h.1⟩
    · exact allI_mem h.2 v e
theorem k_pickI (P : Int → Prop) {Q : PQ IV} {ih : IH} {xs : List IV} {i : Int} (h0 : 0 ≤ i) (h1 : i < (xs.length : Int)) (ha : allI P xs) (k : ∀ z, P z → Q (.int z) ih) : k_ix2 Q ih (atI xs i) := k_pick h0 h1 fun v hv => by
  obtain ⟨z, rfl, hz⟩ := allI_mem ha v hv
  exact k z hz
theorem wp_allL {Q : PQ IV} {E : EQ} {ih : IH} {n : Nat} (ns : List Bool) (h : ih[n]? = some (.lst (ns.map IV.bl))) (q : Q (.bl (ns.all id)) ih) : wp (f_all [.ref n] ih) Q E := wp.of (a_all h rfl rfl) q
theorem wp_anyL {Q : PQ IV} {E : EQ} {ih : IH} {n : Nat} (ns : List Bool) (h : ih[n]? = some (.lst (ns.map IV.bl))) (q : Q (.bl (ns.any id)) ih) : wp (f_any [.ref n] ih) Q E := wp.of (a_any h rfl rfl) q
theorem wp_sumL {Q : PQ IV} {E : EQ} {ih : IH} {n : Nat} (ns : List Int) (h : ih[n]? = some (.lst (ns.map IV.int))) (q : Q (.int ns.sum) ih) : wp (f_sum [.ref n] ih) Q E := wp.of (a_sum h rfl rfl) q
/-- over a list of ints -/
theorem lc_intL {Q : PQ IV} {E : EQ} {env : Env} {ih : IH} {vs : List Nat} {i n : Nat} {me : Env → IH → Res IV} (ns : List Int) (F : Int → IV) (ho : ih[n]? = some (.lst (ns.map IV.int))) (hz : ns.length < 100000)
    (he : ∀ x ∈ ns, ∀ ih', Fx ih ih' → wp (me ((wipeI env vs).set i (some (.int x))) ih') (fun v ih'' => v = F x ∧ ih'' = ih') E0)
    (q : Q (.ref ih.length) (ih ++ [.lst (ns.map F)])) : k_lc vs (g_nm i) n_yes me env Q E (.lst n) ih := lc_int F ho rfl rfl hz he q
/-- over a list of ints, with a test -/
theorem lc_intT {Q : PQ IV} {E : EQ} {env : Env} {ih : IH} {vs : List Nat} {i n : Nat} {mt : Env → IH → Res Bool} {me : Env → IH → Res IV} (ns : List Int) (T : Int → Bool) (F : Int → IV) (ho : ih[n]? = some (.lst (ns.map IV.int))) (hz : ns.length < 100000)
    (ht : ∀ x ∈ ns, ∀ ih', Fx ih ih' → wp (mt ((wipeI env vs).set i (some (.int x))) ih') (fun v ih'' => v = T x ∧ ih'' = ih') E0)
    (he : ∀ x ∈ ns, T x = true → ∀ ih', Fx ih ih' → wp (me ((wipeI env vs).set i (some (.int x))) ih') (fun v ih'' => v = F x ∧ ih'' = ih') E0)
    (q : Q (.ref ih.length) (ih ++ [.lst ((ns.filter T).map F)])) : k_lc vs (g_nm i) mt me env Q E (.lst n) ih := by
  refine lc_flt (fun | .int k => F k | _ => .non) (fun | .int k => T k | _ => false) ho rfl (by rw [xs_lst, List.length_map]; exact hz) (fun x hx ih' f => ?_) (fun x hx t ih' f => ?_) ?_
  · obtain ⟨k, hk, rfl⟩ := List.mem_map.mp hx
    exact ht k hk ih' f
  · obtain ⟨k, hk, rfl⟩ := List.mem_map.mp hx
    exact he k hk t ih' f
  · rw [xs_lst, List.filter_map, List.map_map]
    exact q
/-- what is new, by a name of its own -/
theorem newN {P : IV → IH → Prop} {ih : IH} {o : MO} (k : ∀ n ih', ih.length ≤ n → n < ih'.length → ih'.length ≤ ih.length + 1 → Fx ih ih' → ih'[n]? = some o → P (.ref n) ih') : P (.ref ih.length) (ih ++ [o]) := k _ _ (Nat.le_refl _) (by simp) (by simp) Fx.app g_new
/-- both ways give the same -/
theorem if_join {α : Type} {ma mb : Env → IH → Res α} {env : Env} {ih : IH} {Q : PQ α} {E : EQ} {b : Bool} (v : α) (h1 : b = true → wp (ma env ih) (fun x ih' => x = v ∧ ih' = ih) E0) (h0 : b = false → wp (mb env ih) (fun x ih' => x = v ∧ ih' = ih) E0) (q : Q v ih) : k_if ma mb env Q E b ih := by
  cases b with
  | true => exact wp.of (h1 rfl).eq q
  | false => exact wp.of (h0 rfl).eq q
theorem ws_while {n : Nat} {mt : Env → IH → Res Bool} {mb : Env → IH → RS} {env : Env} {ih : IH} {S : SQ} {F : ES} : ws (ms_while n mt mb env ih) S F = ws (whileGo mt mb n env ih) S F := rfl
theorem ws_whileA {n : Nat} {mt : Env → IH → Res Bool} {mb : Env → IH → RS} {env : Env} {ih : IH} {S : SQ} {F : ES} : ws (ms_while n mt mb env ih) S F = ∀ fu, fu = n → ws (whileGo mt mb fu env ih) S F := by
  rw [forall_eq]
  rfl
theorem g_pair {i j : Nat} {v w : IV} {env : Env} {ih : IH} : g_tup 2 (g_cons (g_nm i) (g_cons (g_nm j) g_nil)) (.ref ih.length) env (ih ++ [.tup [v, w]]) = some ((env.set i (some v)).set j (some w)) := by
  unfold g_tup
  dsimp only
  rw [g_new]
  rfl
theorem cutI_m1 (xs : List IV) (x : IV) : cutI (xs ++ [x]) none (some (-1)) = xs := by
  unfold cutI
  rw [HT.sIx_none]
  have e : HT.sIx (xs ++ [x]).length (xs ++ [x]).length (some (-1)) = xs.length := by
    have h := HT.clip_eq (-1) (xs ++ [x]).length (xs ++ [x]).length
    rw [if_pos (by decide)] at h
    simp only [List.length_append, List.length_singleton] at h ⊢
    omega
  rw [e, List.drop_zero, Nat.sub_zero, List.take_left']
  rfl
/-! ### isinstance -/
section
variable {Q : PQ IV} {E : EQ} {ih : IH} {n : Nat} {i : Int} {xs : List IV}
theorem kit_ii : kitB "int" "int" = some true := by decide +kernel
theorem kit_ib : kitB "int" "bool" = some false := by decide +kernel
theorem kit_ll : kitB "list" "list" = some true := by decide +kernel
theorem kit_tt : kitB "tuple" "tuple" = some true := by decide +kernel
theorem kit_lt : kitB "list" "tuple" = some false := by decide +kernel
theorem kit_tl : kitB "tuple" "list" = some false := by decide +kernel
theorem kit2_NoneType_int : kitB "NoneType" "int" = some false := by decide +kernel
theorem kit2_NoneType_bool : kitB "NoneType" "bool" = some false := by decide +kernel
theorem kit2_NoneType_list : kitB "NoneType" "list" = some false := by decide +kernel
theorem kit2_NoneType_tuple : kitB "NoneType" "tuple" = some false := by decide +kernel
theorem kit2_NoneType_str : kitB "NoneType" "str" = some false := by decide +kernel
theorem kit2_bool_int : kitB "bool" "int" = some true := by decide +kernel
theorem kit2_bool_bool : kitB "bool" "bool" = some true := by decide +kernel
theorem kit2_bool_list : kitB "bool" "list" = some false := by decide +kernel
theorem kit2_bool_tuple : kitB "bool" "tuple" = some false := by decide +kernel
theorem kit2_bool_str : kitB "bool" "str" = some false := by decide +kernel
theorem kit2_str_int : kitB "str" "int" = some false := by decide +kernel
theorem kit2_str_bool : kitB "str" "bool" = some false := by decide +kernel
theorem kit2_str_list : kitB "str" "list" = some false := by decide +kernel
theorem kit2_str_tuple : kitB "str" "tuple" = some false := by decide +kernel
theorem kit2_str_str : kitB "str" "str" = some true := by decide +kernel
theorem kit2_dict_int : kitB "dict" "int" = some false := by decide +kernel
theorem kit2_dict_bool : kitB "dict" "bool" = some false := by decide +kernel
theorem kit2_dict_list : kitB "dict" "list" = some false := by decide +kernel
theorem kit2_dict_tuple : kitB "dict" "tuple" = some false := by decide +kernel
theorem kit2_dict_str : kitB "dict" "str" = some false := by decide +kernel
theorem kit2_list_int : kitB "list" "int" = some false := by decide +kernel
theorem kit2_list_bool : kitB "list" "bool" = some false := by decide +kernel
theorem kit2_list_str : kitB "list" "str" = some false := by decide +kernel
theorem kit2_tuple_int : kitB "tuple" "int" = some false := by decide +kernel
theorem kit2_tuple_bool : kitB "tuple" "bool" = some false := by decide +kernel
theorem kit2_tuple_str : kitB "tuple" "str" = some false := by decide +kernel
theorem kit2_int_list : kitB "int" "list" = some false := by decide +kernel
theorem kit2_int_tuple : kitB "int" "tuple" = some false := by decide +kernel
theorem kit2_int_str : kitB "int" "str" = some false := by decide +kernel
theorem wp_isiII : wp (f_isi [.int i, .ty "int"] ih) Q E = Q (.bl true) ih := by
  rw [show f_isi [.int i, .ty "int"] ih = .ok (.bl true) ih by
    unfold f_isi
    dsimp only [tyN]
    rw [kit_ii]]
  rfl
theorem wp_isiIB : wp (f_isi [.int i, .ty "bool"] ih) Q E = Q (.bl false) ih := by
  rw [show f_isi [.int i, .ty "bool"] ih = .ok (.bl false) ih by
    unfold f_isi
    dsimp only [tyN]
    rw [kit_ib]]
  rfl
def tyO : Option MO → Option String
  | some (.lst _) => some "list"
  | some (.tup _) => some "tuple"
  | some .dct => some "dict"
  | _ => none
def k_isi2 (Q : PQ IV) (ih : IH) : Option Bool → Prop
  | some b => Q (.bl b) ih
  | none => False
def k_isi (T : String) (Q : PQ IV) (ih : IH) : Option String → Prop
  | some t => k_isi2 Q ih (kitB t T)
  | none => False
theorem wp_isiN {T : String} : wp (f_isi [.non, .ty T] ih) Q E = k_isi2 Q ih (kitB "NoneType" T) := by
  unfold f_isi
  dsimp only [tyN]
  show wp (match kitB "NoneType" T with
    | some b => _
    | none => _) Q E = k_isi2 Q ih (kitB "NoneType" T)
  cases kitB "NoneType" T <;> rfl
theorem wp_isiBl {T : String} {b : Bool} : wp (f_isi [.bl b, .ty T] ih) Q E = k_isi2 Q ih (kitB "bool" T) := by
  unfold f_isi
  dsimp only [tyN]
  show wp (match kitB "bool" T with
    | some b => _
    | none => _) Q E = k_isi2 Q ih (kitB "bool" T)
  cases kitB "bool" T <;> rfl
theorem wp_isiS {T : String} {z : Str} : wp (f_isi [.str z, .ty T] ih) Q E = k_isi2 Q ih (kitB "str" T) := by
  unfold f_isi
  dsimp only [tyN]
  show wp (match kitB "str" T with
    | some b => _
    | none => _) Q E = k_isi2 Q ih (kitB "str" T)
  cases kitB "str" T <;> rfl
theorem wp_isiR {T : String} : wp (f_isi [.ref n, .ty T] ih) Q E = k_isi T Q ih (tyO ih[n]?) := by
  unfold f_isi
  dsimp only [tyN]
  cases ih[n]? with
  | none => rfl
  | some o =>
    cases o with
    | lst xs =>
      show wp (match kitB "list" T with
        | some b => _
        | none => _) Q E = k_isi2 Q ih (kitB "list" T)
      cases kitB "list" T <;> rfl
    | tup xs =>
      show wp (match kitB "tuple" T with
        | some b => _
        | none => _) Q E = k_isi2 Q ih (kitB "tuple" T)
      cases kitB "tuple" T <;> rfl
    | dct =>
      show wp (match kitB "dict" T with
        | some b => _
        | none => _) Q E = k_isi2 Q ih (kitB "dict" T)
      cases kitB "dict" T <;> rfl
    | _ => rfl
theorem tyO_l : tyO (some (.lst xs)) = some "list" := rfl
theorem tyO_d : tyO (some .dct) = some "dict" := rfl
theorem tyO_t : tyO (some (.tup xs)) = some "tuple" := rfl
theorem kk_isi {T t : String} : k_isi T Q ih (some t) = k_isi2 Q ih (kitB t T) := rfl
theorem kk_isi2 {b : Bool} : k_isi2 Q ih (some b) = Q (.bl b) ih := rfl
end
/-- over a range, with a test -/
theorem lc_rngT {Q : PQ IV} {E : EQ} {env : Env} {ih : IH} {vs : List Nat} {i : Nat} {mt : Env → IH → Res Bool} {me : Env → IH → Res IV} {j : Nat} {lo : Int} (T : Nat → Bool) (F : Nat → IV) (hz : j < 100000)
    (ht : ∀ k, k < j → ∀ ih', Fx ih ih' → wp (mt ((wipeI env vs).set i (some (.int (lo + (k : Int))))) ih') (fun v ih'' => v = T k ∧ ih'' = ih') E0)
    (he : ∀ k, k < j → T k = true → ∀ ih', Fx ih ih' → wp (me ((wipeI env vs).set i (some (.int (lo + (k : Int))))) ih') (fun v ih'' => v = F k ∧ ih'' = ih') E0)
    (q : Q (.ref ih.length) (ih ++ [.lst (((List.range j).filter T).map F)])) : k_lc vs (g_nm i) mt me env Q E (.rng lo 1 j) ih := by
  show wp (lcGo (.rng lo 1 j) (g_nm i) mt me ih.length (wipeI env vs) (j + 1) 0 (ih ++ [.lst []])) Q E
  obtain ⟨acc', ih', e1, e2, e3⟩ := lcGo_ind (s := .rng lo 1 j) (g := g_nm i) (n := mt) (me := me) (d := ih.length) (env := wipeI env vs) j (fun k acc ih' => acc = ((List.range k).filter T).map F ∧ ih' = ih ++ [.lst acc])
    (fun k acc ih2 hk ⟨ha, hi⟩ hd => by
      subst hi
      have e0 : lo + (k : Int) * 1 = lo + (k : Int) := by omega
      refine ⟨.int (lo + (k : Int)), _, _, T k, _, by rw [turn_rng hk, e0], rfl, (ht k hk _ Fx.app).eq, fun hb => ⟨hd, ?_, rfl⟩, fun hb => ⟨_, _, (he k hk hb _ Fx.app).eq, hd, ?_, ?_, ?_⟩⟩
      · rw [List.range_succ, List.filter_append, ha, List.filter_cons, hb]
        simp
      · rw [ha, List.length_map]
        exact Nat.lt_of_le_of_lt (List.length_filter_le _ _) (by rw [List.length_range]; omega)
      · rw [List.range_succ, List.filter_append, ha, List.filter_cons, hb]
        simp
      · rw [set_append_last])
    (fun acc ih _ hd => stop_rng) (j + 1) 0 [] (ih ++ [.lst []]) (Nat.zero_le _) (by omega) ⟨by simp, rfl⟩ (get_new _ _)
  obtain ⟨h1, h2⟩ := e3
  rw [h2, h1] at e1
  exact wp.of e1 q
/-- over a range from 0, with a test -/
theorem lc_rngT0 {Q : PQ IV} {E : EQ} {env : Env} {ih : IH} {vs : List Nat} {i : Nat} {mt : Env → IH → Res Bool} {me : Env → IH → Res IV} {j : Nat} (T : Nat → Bool) (F : Nat → IV) (hz : j < 100000)
    (ht : ∀ k, k < j → ∀ ih', Fx ih ih' → wp (mt ((wipeI env vs).set i (some (.int (k : Int)))) ih') (fun v ih'' => v = T k ∧ ih'' = ih') E0)
    (he : ∀ k, k < j → T k = true → ∀ ih', Fx ih ih' → wp (me ((wipeI env vs).set i (some (.int (k : Int)))) ih') (fun v ih'' => v = F k ∧ ih'' = ih') E0)
    (q : Q (.ref ih.length) (ih ++ [.lst (((List.range j).filter T).map F)])) : k_lc vs (g_nm i) mt me env Q E (.rng 0 1 j) ih :=
  lc_rngT T F hz (fun k hk ih' f => by rw [Int.zero_add]; exact ht k hk ih' f) (fun k hk t ih' f => by rw [Int.zero_add]; exact he k hk t ih' f) q
/-- lists put together -/
theorem wp_cat {Q : PQ IV} {E : EQ} {ih : IH} {n m : Nat} {xs ys : List IV} (h1 : ih[n]? = some (.lst xs)) (h2 : ih[m]? = some (.lst ys)) (hl : xs.length + ys.length ≤ 100000) (q : Q (.ref ih.length) (ih ++ [.lst (xs ++ ys)])) : wp (f_add (.ref n) (.ref m) ih) Q E := by
  have e : f_add (.ref n) (.ref m) ih = .ok (.ref ih.length) (ih ++ [.lst (xs ++ ys)]) := by
    unfold f_add
    dsimp only
    rw [h1, h2]
    dsimp only
    rw [if_pos hl]
  exact wp.of e q
end L3
namespace L3
open PySem PySem.Spec PyProof.Rows L2

noncomputable def lb_law_due_1 (c : Cs) : Env → IH → RS := (ms_seq (ms_set (g_nm 7) (m_op f_fdiv (m_op f_shr (m_op f_mulA (m_var 6) (m_var 0)) (m_var 1)) (m_var 2)))
 (ms_if (m_tb (m_op f_gt (m_var 7) (m_op f_fdiv (m_op f_shr (m_op f_mulA (m_op f_sub (m_var 6) (m_c (.int 1))) (m_var 0)) (m_var 1)) (m_var 2))))
 (ms_setL (m_c (.bl false)) (m_var 5) (m_op f_mod (m_app f_int (m_cons (m_op f_fdiv (m_var 6) (m_var 3)) m_nil)) (m_var 4)))
 ms_pass))
noncomputable def le_law_due_1 (c : Cs) : Env → IH → Res IV := (m_var 8)
noncomputable def ln_law_due_1 (c : Cs) : Env → IH → Res Bool := (m_tb (m_var 9))
noncomputable def lc_law_due_1 (c : Cs) : Env → IH → Res IV := m_lc [8, 9] (mi_enm (m_cons (m_var 5) m_nil)) (g_tup 2 (g_cons (g_nm 8) (g_cons (g_nm 9) g_nil))) (ln_law_due_1 c) (le_law_due_1 c)
noncomputable def b_law_due (c : Cs) : Env → IH → RS := (ms_seq (ms_set (g_nm 5) (m_op f_mulA (m_app f_lst (m_cons (m_c (.bl true)) m_nil)) (m_var 4)))
 (ms_seq (ms_for (mi_rng2 (m_cons (m_c (.int 1)) (m_cons (m_op f_add (m_op f_mulA (m_op f_mulA (m_var 3) (m_var 4)) (m_op f_shl (m_var 2) (m_var 1))) (m_c (.int 1))) m_nil))) (g_nm 6)
 (lb_law_due_1 c))
 (ms_ret (lc_law_due_1 c))))
noncomputable def m_law_due (c : Cs) : List IV → IH → Res IV := defRun 10 (b_law_due c)
noncomputable def b_law_mixed (c : Cs) : Env → IH → RS := (ms_seq (ms_set (g_nm 2) (m_op f_mod (m_app f_int (m_cons (m_op f_mulA (m_op f_add (m_op f_add (m_op f_mod (m_app f_int (m_cons (m_var 0) m_nil)) (m_c (.int 2147483647))) (m_op f_mulA (m_c (.int 48611)) (m_var 1))) (m_c (.int 9))) (m_c (.int 16807))) m_nil)) (m_c (.int 2147483629))))
 (ms_seq (ms_set (g_nm 3) (m_op f_add (m_var 2) (m_op f_mod (m_app f_int (m_cons (m_op f_fdiv (m_var 0) (m_c (.int 2147483647))) m_nil)) (m_c (.int 99991)))))
 (ms_seq (ms_set (g_nm 2) (m_op f_mod (m_app f_int (m_cons (m_op f_mulA (m_var 3) (m_op f_add (m_op f_add (m_op f_fdiv (m_var 2) (m_c (.int 1013))) (m_op f_mulA (m_c (.int 71)) (m_var 1))) (m_c (.int 5)))) m_nil)) (m_c (.int 2147483587))))
 (ms_ret (m_op f_fdiv (m_op f_mod (m_app f_int (m_cons (m_op f_mulA (m_var 2) (m_op f_add (m_op f_fdiv (m_var 2) (m_c (.int 2003))) (m_c (.int 90001)))) m_nil)) (m_c (.int 2147483579))) (m_c (.int 7)))))))
noncomputable def m_law_mixed (c : Cs) : List IV → IH → Res IV := defRun 4 (b_law_mixed c)
noncomputable def b_law_next (c : Cs) : Env → IH → RS := (ms_seq (ms_if (m_tb (m_op f_gt (m_op f_ix (m_var 0) (m_c (.int 0))) (m_c (.int 0))))
 (ms_seq (ms_set (g_nm 2) (m_op f_mod (m_app f_int (m_cons (m_op f_ix (m_var 0) (m_c (.int 0))) m_nil)) (m_var 1)))
 (ms_seq (ms_setL (m_op f_fdiv (m_op f_ix (m_var 0) (m_c (.int 0))) (m_var 1)) (m_var 0) (m_c (.int 0)))
 (ms_ret (m_var 2))))
 ms_pass)
 (ms_seq (ms_setL (m_op f_add (m_op f_ix (m_var 0) (m_c (.int 2))) (m_c (.int 1))) (m_var 0) (m_c (.int 2)))
 (ms_ret (m_op f_mod (m_app f_int (m_cons (m_app (f_call 2 [] (m_law_mixed c)) (m_cons (m_op f_ix (m_var 0) (m_c (.int 1))) (m_cons (m_op f_ix (m_var 0) (m_c (.int 2))) m_nil))) m_nil)) (m_var 1)))))
noncomputable def m_law_next (c : Cs) : List IV → IH → Res IV := defRun 3 (b_law_next c)
noncomputable def wb_law_great_1 (c : Cs) : Env → IH → RS := (ms_par 2 3 (m_cons (m_op f_add (m_op f_mulA (m_var 2) (m_op f_pow (m_c (.int 10)) (m_c (.int 8)))) (m_app (f_call 2 [] (m_law_next c)) (m_cons (m_var 0) (m_cons (m_op f_pow (m_c (.int 10)) (m_c (.int 8))) m_nil)))) (m_cons (m_op f_mulA (m_var 3) (m_op f_pow (m_c (.int 10)) (m_c (.int 8)))) m_nil)))
noncomputable def wt_law_great_1 (c : Cs) : Env → IH → Res Bool := (m_tb (m_op f_lt (m_var 3) (m_var 1)))
noncomputable def b_law_great (c : Cs) : Env → IH → RS := (ms_seq (ms_set (g_tup 2 (g_cons (g_nm 2) (g_cons (g_nm 3) g_nil))) (m_app f_tup (m_cons (m_c (.int 0)) (m_cons (m_c (.int 1)) m_nil))))
 (ms_seq (ms_while 1000000 (wt_law_great_1 c)
 (wb_law_great_1 c))
 (ms_ret (m_op f_mod (m_app f_int (m_cons (m_var 2) m_nil)) (m_var 1)))))
noncomputable def m_law_great (c : Cs) : List IV → IH → Res IV := defRun 4 (b_law_great c)
noncomputable def b_is_whole (c : Cs) : Env → IH → RS := (ms_ret (m_andV (m_app f_isi (m_cons (m_var 0) (m_cons (m_c (.ty "int")) m_nil))) (m_andV (m_notV (m_app f_isi (m_cons (m_var 0) (m_cons (m_c (.ty "bool")) m_nil)))) (m_orV (m_op f_isN (m_var 1) (m_c .non)) (m_op f_ge (m_var 0) (m_var 1))))))
noncomputable def m_is_whole (c : Cs) : List IV → IH → Res IV := defRun 2 (b_is_whole c)
noncomputable def b_power (c : Cs) : Env → IH → RS := (ms_ret (m_op f_shl (m_c (.int 1)) (m_var 0)))
noncomputable def m_power (c : Cs) : List IV → IH → Res IV := defRun 1 (b_power c)
noncomputable def b_is_mult (c : Cs) : Env → IH → RS := (ms_ret (m_andV (m_app (f_call 2 [] (m_is_whole c)) (m_cons (m_var 0) (m_cons (m_c (.int 1)) m_nil))) (m_op f_lt (m_var 0) (m_app (f_call 1 [] (m_power c)) (m_cons (m_c (.int 64)) m_nil)))))
noncomputable def m_is_mult (c : Cs) : List IV → IH → Res IV := defRun 1 (b_is_mult c)
noncomputable def b_is_shift (c : Cs) : Env → IH → RS := (ms_ret (m_andV (m_app (f_call 2 [] (m_is_whole c)) (m_cons (m_var 0) (m_cons (m_c (.int 0)) m_nil))) (m_op f_le (m_var 0) (m_c (.int 64)))))
noncomputable def m_is_shift (c : Cs) : List IV → IH → Res IV := defRun 1 (b_is_shift c)
noncomputable def b_check_rate (c : Cs) : Env → IH → RS := (ms_if (m_or (m_not (m_tb (m_app f_isi (m_cons (m_var 0) (m_cons (m_c (.ty "tuple")) m_nil))))) (m_or (m_tb (m_op f_ne (m_app f_len (m_cons (m_var 0) m_nil)) (m_c (.int 2)))) (m_or (m_not (m_tb (m_app (f_call 1 [] (m_is_mult c)) (m_cons (m_op f_ix (m_var 0) (m_c (.int 0))) m_nil)))) (m_not (m_tb (m_app (f_call 1 [] (m_is_shift c)) (m_cons (m_op f_ix (m_var 0) (m_c (.int 1))) m_nil)))))))
 (ms_raise c.NoRate)
 ms_pass)
noncomputable def m_check_rate (c : Cs) : List IV → IH → Res IV := defRun 1 (b_check_rate c)
noncomputable def wb_common_divisor_1 (c : Cs) : Env → IH → RS := (ms_par 0 1 (m_cons (m_var 1) (m_cons (m_op f_mod (m_var 0) (m_var 1)) m_nil)))
noncomputable def wt_common_divisor_1 (c : Cs) : Env → IH → Res Bool := (m_tb (m_op f_ne (m_var 1) (m_c (.int 0))))
noncomputable def b_common_divisor (c : Cs) : Env → IH → RS := (ms_seq (ms_while 1000000 (wt_common_divisor_1 c)
 (wb_common_divisor_1 c))
 (ms_ret (m_var 0)))
noncomputable def m_common_divisor (c : Cs) : List IV → IH → Res IV := defRun 2 (b_common_divisor c)
noncomputable def lb_never_sampled_1 (c : Cs) : Env → IH → RS := (ms_seq (ms_set (g_nm 7) (m_op f_mulA (m_op f_sub (m_op f_mulA (m_var 6) (m_var 2)) (m_c (.int 1))) (m_op f_ix (m_var 0) (m_c (.int 0)))))
 (ms_seq (ms_set (g_nm 8) (m_op f_mulA (m_op f_sub (m_op f_mulA (m_op f_add (m_var 6) (m_c (.int 1))) (m_var 2)) (m_c (.int 1))) (m_op f_ix (m_var 0) (m_c (.int 0)))))
 (ms_if (m_tb (m_op f_eq (m_op f_fdiv (m_var 8) (m_var 4)) (m_op f_fdiv (m_var 7) (m_var 4))))
 (ms_expr (m_mL f_append (m_var 5) (m_cons (m_var 6) m_nil)))
 ms_pass)))
noncomputable def b_never_sampled (c : Cs) : Env → IH → RS := (ms_seq (ms_expr (m_app (f_call 1 [] (m_check_rate c)) (m_cons (m_var 0) m_nil)))
 (ms_seq (ms_if (m_not (m_tb (m_app (f_call 2 [] (m_is_whole c)) (m_cons (m_var 1) (m_cons (m_c (.int 1)) m_nil)))))
 (ms_raise c.NoTick)
 ms_pass)
 (ms_seq (ms_if (m_not (m_tb (m_app (f_call 2 [] (m_is_whole c)) (m_cons (m_var 2) (m_cons (m_c (.int 1)) m_nil)))))
 (ms_raise c.NoQuantum)
 ms_pass)
 (ms_seq (ms_if (m_or (m_not (m_tb (m_app (f_call 2 [] (m_is_whole c)) (m_cons (m_var 3) (m_cons (m_c (.int 1)) m_nil))))) (m_tb (m_op f_gt (m_var 3) (m_c (.int 40)))))
 (ms_raise c.NoThread)
 ms_pass)
 (ms_seq (ms_set (g_nm 4) (m_app (f_call 2 [] (m_common_divisor c)) (m_cons (m_op f_shl (m_var 1) (m_op f_ix (m_var 0) (m_c (.int 1)))) (m_cons (m_op f_mulA (m_op f_mulA (m_var 2) (m_var 3)) (m_op f_ix (m_var 0) (m_c (.int 0)))) m_nil))))
 (ms_seq (ms_set (g_nm 5) (m_app f_lst m_nil))
 (ms_seq (ms_for (mi_rng1 (m_cons (m_var 3) m_nil)) (g_nm 6)
 (lb_never_sampled_1 c))
 (ms_ret (m_var 5)))))))))
noncomputable def m_never_sampled (c : Cs) : List IV → IH → Res IV := defRun 9 (b_never_sampled c)
noncomputable def b_law_far_right (c : Cs) : Env → IH → RS := (ms_seq (ms_set (g_nm 7) (m_op f_add (m_c (.int 1)) (m_app (f_call 2 [] (m_law_great c)) (m_cons (m_var 0) (m_cons (m_op f_pow (m_c (.int 10)) (m_c (.int 16))) m_nil)))))
 (ms_seq (ms_if (m_tb (m_op f_ne (m_app (f_call 4 [] (m_never_sampled c)) (m_cons (m_app f_tup (m_cons (m_op f_mulA (m_var 2) (m_var 7)) (m_cons (m_var 3) m_nil))) (m_cons (m_op f_mulA (m_var 4) (m_var 7)) (m_cons (m_var 5) (m_cons (m_var 6) m_nil))))) (m_var 1)))
 (ms_ret (m_c (.bl false)))
 ms_pass)
 (ms_seq (ms_set (g_nm 8) (m_app (f_call 2 [] (m_law_next c)) (m_cons (m_var 0) (m_cons (m_c (.int 50)) m_nil))))
 (ms_seq (ms_if (m_tb (m_op f_ne (m_app (f_call 4 [] (m_never_sampled c)) (m_cons (m_app f_tup (m_cons (m_op f_shl (m_var 2) (m_var 8)) (m_cons (m_op f_add (m_var 3) (m_var 8)) m_nil))) (m_cons (m_var 4) (m_cons (m_var 5) (m_cons (m_var 6) m_nil))))) (m_var 1)))
 (ms_ret (m_c (.bl false)))
 ms_pass)
 (ms_seq (ms_par 9 7 (m_cons (m_app (f_call 4 [] (m_never_sampled c)) (m_cons (m_app f_tup (m_cons (m_c (.int 1)) (m_cons (m_c (.int 0)) m_nil))) (m_cons (m_var 4) (m_cons (m_var 5) (m_cons (m_var 6) m_nil))))) (m_cons (m_op f_add (m_c (.int 1)) (m_app (f_call 2 [] (m_law_great c)) (m_cons (m_var 0) (m_cons (m_op f_pow (m_c (.int 10)) (m_c (.int 45))) m_nil)))) m_nil)))
 (ms_seq (ms_if (m_tb (m_op f_ne (m_app (f_call 4 [] (m_never_sampled c)) (m_cons (m_app f_tup (m_cons (m_c (.int 1)) (m_cons (m_c (.int 0)) m_nil))) (m_cons (m_op f_mulA (m_var 4) (m_var 7)) (m_cons (m_op f_mulA (m_var 5) (m_var 7)) (m_cons (m_var 6) m_nil))))) (m_var 9)))
 (ms_ret (m_c (.bl false)))
 ms_pass)
 (ms_seq (ms_if (m_and (m_tb (m_op f_lt (m_var 7) (m_op f_pow (m_c (.int 2)) (m_c (.int 64))))) (m_tb (m_op f_ne (m_app (f_call 4 [] (m_never_sampled c)) (m_cons (m_app f_tup (m_cons (m_var 7) (m_cons (m_c (.int 0)) m_nil))) (m_cons (m_op f_mulA (m_var 7) (m_var 4)) (m_cons (m_var 5) (m_cons (m_var 6) m_nil))))) (m_var 9))))
 (ms_ret (m_c (.bl false)))
 ms_pass)
 (ms_ret (m_op f_eq (m_var 9) (m_app (f_call 5 [] (m_law_due c)) (m_cons (m_c (.int 1)) (m_cons (m_c (.int 0)) (m_cons (m_var 4) (m_cons (m_var 5) (m_cons (m_var 6) m_nil)))))))))))))))
noncomputable def m_law_far_right (c : Cs) : List IV → IH → Res IV := defRun 10 (b_law_far_right c)
noncomputable def b_law_one (c : Cs) : Env → IH → RS := (ms_ret (m_op f_ix (m_var 1) (m_app (f_call 2 [] (m_law_next c)) (m_cons (m_var 0) (m_cons (m_app f_len (m_cons (m_var 1) m_nil)) m_nil)))))
noncomputable def m_law_one (c : Cs) : List IV → IH → Res IV := defRun 2 (b_law_one c)
noncomputable def lb_law_plain_right_1 (c : Cs) : Env → IH → RS := (ms_if (m_tb (m_op f_ne (m_app (f_call 4 [] (m_never_sampled c)) (m_cons (m_app f_tup (m_cons (m_c (.int 1)) (m_cons (m_c (.int 0)) m_nil))) (m_cons (m_var 5) (m_cons (m_var 1) (m_cons (m_var 2) m_nil))))) (m_app f_lst m_nil)))
 (ms_ret (m_c (.bl false)))
 ms_pass)
noncomputable def b_law_plain_right (c : Cs) : Env → IH → RS := (ms_seq (ms_set (g_nm 3) (m_op f_mulA (m_var 1) (m_var 2)))
 (ms_seq (ms_set (g_nm 4) (m_op f_mulA (m_var 3) (m_op f_add (m_c (.int 1)) (m_app (f_call 2 [] (m_law_great c)) (m_cons (m_var 0) (m_cons (m_op f_pow (m_c (.int 10)) (m_c (.int 40))) m_nil))))))
 (ms_seq (ms_for (mi_tup (m_app f_tup (m_cons (m_op f_add (m_var 4) (m_c (.int 1))) (m_cons (m_op f_sub (m_op f_mulA (m_c (.int 2)) (m_var 4)) (m_c (.int 1))) m_nil)))) (g_nm 5)
 (lb_law_plain_right_1 c))
 (ms_ret (m_op f_eq (m_app (f_call 4 [] (m_never_sampled c)) (m_cons (m_app f_tup (m_cons (m_c (.int 1)) (m_cons (m_c (.int 0)) m_nil))) (m_cons (m_var 4) (m_cons (m_var 1) (m_cons (m_var 2) m_nil))))) (m_app f_lrg (m_cons (m_c (.int 1)) (m_cons (m_var 2) m_nil))))))))
noncomputable def m_law_plain_right (c : Cs) : List IV → IH → Res IV := defRun 6 (b_law_plain_right c)
noncomputable def b_law_source (c : Cs) : Env → IH → RS := (ms_seq (ms_set (g_nm 2) (m_if (m_tb (m_op f_lt (m_var 1) (m_app f_len (m_cons (m_var 0) m_nil)))) (m_op f_ix (m_var 0) (m_var 1)) (m_var 1)))
 (ms_ret (m_app f_lst (m_cons (m_op f_mulA (m_var 2) (m_app f_int (m_cons (m_op f_ge (m_var 2) (m_op f_pow (m_c (.int 10)) (m_c (.int 18)))) m_nil))) (m_cons (m_var 2) (m_cons (m_c (.int 0)) m_nil))))))
noncomputable def m_law_source (c : Cs) : List IV → IH → Res IV := defRun 3 (b_law_source c)
noncomputable def lb_law_1 (c : Cs) : Env → IH → RS := (ms_seq (ms_par 4 5 (m_cons (m_op f_add (m_c (.int 1)) (m_app (f_call 2 [] (m_law_next c)) (m_cons (m_var 2) (m_cons (m_c (.int 12)) m_nil)))) (m_cons (m_app (f_call 2 [] (m_law_next c)) (m_cons (m_var 2) (m_cons (m_c (.int 3)) m_nil))) m_nil)))
 (ms_seq (ms_par 6 7 (m_cons (m_op f_add (m_c (.int 1)) (m_app (f_call 2 [] (m_law_next c)) (m_cons (m_var 2) (m_cons (m_c (.int 8)) m_nil)))) (m_cons (m_op f_add (m_c (.int 1)) (m_app (f_call 2 [] (m_law_next c)) (m_cons (m_var 2) (m_cons (m_c (.int 9)) m_nil)))) m_nil)))
 (ms_seq (ms_set (g_nm 8) (m_op f_add (m_c (.int 1)) (m_app (f_call 2 [] (m_law_next c)) (m_cons (m_var 2) (m_cons (m_app (f_call 2 [] (m_law_one c)) (m_cons (m_var 2) (m_cons (m_app f_lst (m_cons (m_c (.int 6)) (m_cons (m_c (.int 6)) (m_cons (m_c (.int 40)) m_nil)))) m_nil))) m_nil)))))
 (ms_seq (ms_set (g_nm 9) (m_app (f_call 5 [] (m_law_due c)) (m_cons (m_var 4) (m_cons (m_var 5) (m_cons (m_var 6) (m_cons (m_var 7) (m_cons (m_var 8) m_nil)))))))
 (ms_seq (ms_set (g_nm 10) (m_app (f_call 4 [] (m_never_sampled c)) (m_cons (m_app f_tup (m_cons (m_var 4) (m_cons (m_var 5) m_nil))) (m_cons (m_var 6) (m_cons (m_var 7) (m_cons (m_var 8) m_nil))))))
 (ms_seq (ms_if (m_tb (m_op f_ne (m_var 10) (m_var 9)))
 (ms_ret (m_c (.bl false)))
 ms_pass)
 (ms_seq (ms_if (m_tb (m_op f_ne (m_app (f_callK 4 4 rev4 (m_never_sampled c)) (m_cons (m_var 8) (m_cons (m_var 7) (m_cons (m_var 6) (m_cons (m_app f_tup (m_cons (m_var 4) (m_cons (m_var 5) m_nil))) m_nil))))) (m_var 9)))
 (ms_ret (m_c (.bl false)))
 ms_pass)
 (ms_seq (ms_expr (m_mL f_append (m_var 10) (m_cons (m_c .non) m_nil)))
 (ms_seq (ms_if (m_tb (m_op f_ne (m_app (f_call 4 [] (m_never_sampled c)) (m_cons (m_app f_tup (m_cons (m_var 4) (m_cons (m_var 5) m_nil))) (m_cons (m_var 6) (m_cons (m_var 7) (m_cons (m_var 8) m_nil))))) (m_var 9)))
 (ms_ret (m_c (.bl false)))
 ms_pass)
 (ms_seq (ms_if (m_not (m_tb (m_app (f_call 7 [] (m_law_far_right c)) (m_cons (m_var 2) (m_cons (m_var 9) (m_cons (m_var 4) (m_cons (m_var 5) (m_cons (m_var 6) (m_cons (m_var 7) (m_cons (m_var 8) m_nil))))))))))
 (ms_ret (m_c (.bl false)))
 ms_pass)
 (ms_if (m_not (m_tb (m_app (f_call 3 [] (m_law_plain_right c)) (m_cons (m_var 2) (m_cons (m_var 7) (m_cons (m_var 8) m_nil))))))
 (ms_ret (m_c (.bl false)))
 ms_pass)))))))))))
noncomputable def lb_law_2 (c : Cs) : Env → IH → RS := (ms_seq (ms_set (g_nm 2) (m_app (f_call 2 [] (m_law_source c)) (m_cons (m_var 0) (m_cons (m_var 1) m_nil))))
 (ms_for (mi_rng1 (m_cons (m_c (.int 3)) m_nil)) (g_nm 3)
 (lb_law_1 c)))
noncomputable def b_law (c : Cs) : Env → IH → RS := (ms_seq (ms_for (mi_rng1 (m_cons (m_app f_max2 (m_cons (m_c (.int 1)) (m_cons (m_app f_min2 (m_cons (m_c (.int 6)) (m_cons (m_app f_len (m_cons (m_var 0) m_nil)) m_nil))) m_nil))) m_nil)) (g_nm 1)
 (lb_law_2 c))
 (ms_ret (m_c (.bl true))))
noncomputable def m_law (c : Cs) : List IV → IH → Res IV := defRun 11 (b_law c)
end L3
/-! D56: the draws of the laws of samples. -/
namespace L3
open PySem PySem.Spec PyProof.Rows L2
local macro_rules | `(tactic| walk_at "get") => `(tactic| simp (disch := first | assumption | omega | (simp only [List.length_append, List.length_set, List.length_cons, List.length_nil, List.length_map] <;> omega) | fail) only [g_new, g_nw, g_old, g_set, g_sne, List.length_append, List.length_set, List.length_cons, List.length_nil, List.length_map, List.map_map, Function.comp_def, xs_lst, xs_tup, isL_lst, isL_tup, ↓reduceIte, *])
local macro_rules | `(tactic| walk_at "fr") => `(tactic| first | (intro _ _ _; simp (disch := first | assumption | omega | (simp only [List.length_append, List.length_set, List.length_cons, List.length_nil, List.length_map] <;> omega) | fail) only [g_new, g_nw, g_old, g_set, g_sne, List.length_append, List.length_set, List.length_cons, List.length_nil, List.length_map, List.map_map, Function.comp_def, xs_lst, xs_tup, isL_lst, isL_tup, ↓reduceIte, *]) | (intro _ _; simp (disch := first | assumption | omega | (simp only [List.length_append, List.length_set, List.length_cons, List.length_nil, List.length_map] <;> omega) | fail) only [g_new, g_nw, g_old, g_set, g_sne, List.length_append, List.length_set, List.length_cons, List.length_nil, List.length_map, List.map_map, Function.comp_def, xs_lst, xs_tup, isL_lst, isL_tup, ↓reduceIte, *]))
local macro_rules | `(tactic| walk_at "run") => `(tactic| simp -implicitDefEqProofs (disch := first | assumption | omega | (simp only [List.length_append, List.length_set, List.length_cons, List.length_nil, List.length_map] <;> omega) | fail) only [wp_ok, wp_exc, wp_stuck, ws_ok, ws_exc, ws_stuck, wp_op, kk_op, kk_un, wp_un, wp_cons, kk_cons, kk_cons2, wp_nil, wp_c, wp_app, wp_if, kk_if1, kk_if0, wp_and, kk_and1, kk_and0, wp_or, kk_or1, kk_or0, wp_not, kk_not, wp_tb, kk_tb, wp_andV, kk_andV1, kk_andV0, wp_orV, kk_orV1, kk_orV0, wp_notV, kk_notV, wp_noneS, wp_some, kk_some, wp_sl, kk_sl, kk_sl2, kk_sl3, wp_mL, kk_mL, kk_mL2, wp_mL0, kk_mL0, wp_chain, kk_ch, kk_ch2, kk_ch31, kk_ch30, ws_set, kks_nm, kks_g, kks_tup, kks_lst, ws_expr, kks_expr, ws_ret, kks_ret, ws_retN, ws_pass, ws_brk, ws_cont, ws_raise, ws_if, kks_if1, kks_if0, ws_seq, kks_next, kks_retS, kks_brk, kks_cont, kk_augE, ws_aug, kks_aug, kks_aug2, ws_par, kks_par, ws_setL, kks_sl, kks_sl2, kks_sl3, wp_def, kkd_ret, kkd_next, kkdE, kkE, ws_for, wp_lc, wp_r1, kk_r1, wp_r2, kk_r2, wp_il, wp_it, wp_ie, wp_iz, kk_il, kk_il2, kk_it, kk_it2, kk_ie, kk_ie2, kk_iz, kk_iz2, lAt_k, k_lAtL, k_lAtO, k_lAtT, wp_int, wp_add, wp_addI, wp_sub, wp_neg, wp_lt, wp_le, wp_gt, wp_ge, wp_max2, wp_min2, wp_abs, wp_mulI, wp_mul, wp_fdiv, wp_mod, wp_shl, wp_shr, wp_pow, wp_isN, wp_notN, wp_eqI, wp_neI, wp_ix, kk_ix, kk_ix2, wp_len, kk_lenL, kk_lenT, kk_lenO, kk_lenP, wp_appd, kk_app1, isL_k, kk_isL, startI_cons, startI_nil, rep_succ, rep_zero, List.getElem?_cons_zero, List.getElem?_cons_succ, List.set_cons_zero, List.set_cons_succ, f_call, m_var, List.append_nil, List.nil_append, List.cons_append, List.length_cons, List.length_nil, if_true, if_false, g_tup, g_lst, g_cons, g_nil, g_nm, Option.bind_some, kks_g, atI_0, atI_1, atI_2, atI_3, atI_4, atI_5, atI_6, atI_7, atI_8, atI_9, atI_10, atI_11, atI_12, atI_last, cutI_1, ixN_30, ixN_31, ixN_32, Int.toNat_zero, Int.reduceToNat, Int.reduceNeg, xs_lst, xs_tup, xs_ro, xs_rot, isL_lst, isL_tup, isL_ro, isL_rot, isT_tup, isT_rot, Bool.false_eq_true, Bool.true_eq_false, Bool.not_true, Bool.not_false, decide_true, decide_false, Int.reduceLT, Int.reduceLE, Nat.reduceLT, Nat.reduceLeDiff, Nat.reduceAdd, Nat.reduceEqDiff, Bool.not_eq_true, true_and, and_true, and_self, eq_self, g_new, g_nw, g_old, g_set, g_sne, List.length_set, List.length_append, wp_r3, kk_r3, Int.cast_ofNat_Int, Int.reduceEq, Int.natCast_zero, Int.natCast_one, ws_whileA, wp_isiII, wp_isiIB, wp_isiR, tyO_l, tyO_t, kk_isi, kk_isi2, kit_ll, kit_tt, kit_lt, kit_tl, wp_isiN, wp_isiBl, wp_isiS, tyO_d, kit2_NoneType_int, kit2_NoneType_bool, kit2_NoneType_list, kit2_NoneType_tuple, kit2_NoneType_str, kit2_bool_int, kit2_bool_bool, kit2_bool_list, kit2_bool_tuple, kit2_bool_str, kit2_str_int, kit2_str_bool, kit2_str_list, kit2_str_tuple, kit2_str_str, kit2_dict_int, kit2_dict_bool, kit2_dict_list, kit2_dict_tuple, kit2_dict_str, kit2_list_int, kit2_list_bool, kit2_list_str, kit2_tuple_int, kit2_tuple_bool, kit2_tuple_str, kit2_int_list, kit2_int_tuple, kit2_int_str, kf_next, kf_cont, kf_brk, kf_ret, wipeI, ↓reduceIte, *])
def Scr (ns : List Int) (ih : IH) : Prop := ih[0]? = some (.ro (ns.map IV.int))
theorem lit {i : Int} (n : Nat) (h : i.natAbs < 2 ^ n := by decide) : B n i := h
def Src0 (p : Nat) (m : Nat) (ih : IH) : Prop := ∃ a b k : Int, ih[p]? = some (.lst [.int a, .int b, .int k]) ∧ B 1100000 a ∧ B 1100000 b ∧ 0 ≤ k ∧ k ≤ (m : Int)
theorem Src0.mono {p m n : Nat} {ih : IH} (h : Src0 p m ih) (e : m ≤ n) : Src0 p n ih := by
  obtain ⟨a, b, k, h1, h2, h3, h4, h5⟩ := h
  exact ⟨a, b, k, h1, h2, h3, h4, by omega⟩
theorem Src0.lt {p m : Nat} {ih : IH} (h : Src0 p m ih) : p < ih.length := by
  obtain ⟨_, _, _, g, _⟩ := h
  exact lt_of_get g
theorem Src0.fx {p m : Nat} {a b : IH} (h : Src0 p m a) (e : Fx a b) : Src0 p m b := by
  obtain ⟨x, y, k, g, r⟩ := h
  exact ⟨x, y, k, by rw [e p (lt_of_get g)]; exact g, r⟩
theorem Src0.set {p m n : Nat} {a : IH} {o : MO} (h : Src0 p m a) (e : n ≠ p) : Src0 p m (a.set n o) := by
  obtain ⟨x, y, k, g, r⟩ := h
  exact ⟨x, y, k, by rw [g_sne e]; exact g, r⟩
theorem k_setL_of {n : Nat} {i : Int} {v : IV} {env : Env} {S : SQ} {ih : IH} {xs : List IV} {j : Nat} (h : ixN xs.length i = some j) : k_setL n i v env S ih (some (.lst xs)) = S (.next env) (ih.set n (.lst (xs.set j v))) := by
  unfold k_setL
  dsimp only
  rw [h]
theorem wp_intB {Q : PQ IV} {E : EQ} {ih : IH} {b : Bool} : wp (f_int [.bl b] ih) Q E = Q (.int (if b = true then 1 else 0)) ih := rfl
theorem w_mixed (c : Cs) {a k : Int} {ih : IH} {Q : PQ IV} {E : EQ} (ha : B 1100000 a) (hk : B 64 k) (q : ∀ v, Q (.int v) ih) : wp (m_law_mixed c [.int a, .int k] ih) Q E := by
  unfold m_law_mixed b_law_mixed
  have h1 : B 31 (a % 2147483647) := B.mod (by decide) (lit 31)
  have h2 : B 1100000 (a / 2147483647) := B.div ha (by decide)
  have h3 : B 80 (48611 * k) := B.mul (n := 16) (lit 16) hk
  have h4 : B 81 (a % 2147483647 + 48611 * k) := B.add (h1.mono (by decide)) h3
  have h5 : B 82 (a % 2147483647 + 48611 * k + 9) := B.add h4 ((lit 4 : B 4 9).mono (by decide))
  have c1 : cDiv a 2147483647 = true := cDiv_of (by decide) (lit 32) (by decide) (by decide)
  have c3 : cMul 48611 k = true := B.cmul (lit 16 : B 16 48611) hk (by decide)
  have c4 : cMul (a % 2147483647 + 48611 * k + 9) 16807 = true := B.cmul h5 (lit 15 : B 15 16807) (by decide)
  obtain ⟨x, ex⟩ : ∃ x, (a % 2147483647 + 48611 * k + 9) * 16807 % 2147483629 = x := ⟨_, rfl⟩
  have g1 : B 31 x := ex ▸ B.mod (by decide) (lit 31)
  have g2 : B 32 (x + a / 2147483647 % 99991) := B.add g1 ((B.mod (n := 17) (by decide) (lit 17)).mono (by decide))
  have c5 : cDiv x 1013 = true := cDiv_of (by decide) (lit 10 : B 10 1013) (by decide) (by decide)
  have c71 : cMul 71 k = true := B.cmul (lit 7 : B 7 71) hk (by decide)
  have g3 : B 73 (x / 1013 + 71 * k + 5) := B.add (B.add (n := 71) ((B.div g1 (by decide)).mono (by decide)) (B.mul (n := 7) (lit 7) hk)) ((lit 3 : B 3 5).mono (by decide))
  have c6 : cMul (x + a / 2147483647 % 99991) (x / 1013 + 71 * k + 5) = true := B.cmul g2 g3 (by decide)
  obtain ⟨y, ey⟩ : ∃ y, (x + a / 2147483647 % 99991) * (x / 1013 + 71 * k + 5) % 2147483587 = y := ⟨_, rfl⟩
  have k1 : B 31 y := ey ▸ B.mod (by decide) (lit 31)
  have k2 : B 32 (y / 2003 + 90001) := B.add ((B.div k1 (by decide)).mono (by decide)) ((lit 17 : B 17 90001).mono (by decide))
  have c7 : cDiv y 2003 = true := cDiv_of (by decide) (lit 11 : B 11 2003) (by decide) (by decide)
  have c8 : cMul y (y / 2003 + 90001) = true := B.cmul k1 k2 (by decide)
  have c9 : cDiv (y * (y / 2003 + 90001) % 2147483579) 7 = true := cDiv_of (by decide) (lit 3 : B 3 7) (by decide) (by decide)
  clear h1 h2 h3 h4 h5 g1 g2 g3 k1 k2 ha hk
  walk_at "run"
theorem w_next (c : Cs) {p m : Nat} {many : Int} {ih : IH} {Q : PQ IV} {E : EQ} (h : Src0 p m ih) (h0 : 0 < many) (hb : B 8000 many) (hm : m ≤ 1000000)
    (k : ∀ v ih', 0 ≤ v → v < many → Src0 p (m + 1) ih' → Fr p ih ih' → ih'.length = ih.length → Q (.int v) ih') : wp (m_law_next c [.ref p, .int many] ih) Q E := by
  obtain ⟨a, b, j, g, ha, hb', k1, k2⟩ := h
  have pl := lt_of_get g
  have c1 : cDiv a many = true := cDiv_of h0 hb (by decide) (by decide)
  unfold m_law_next b_law_next
  by_cases h1 : 0 < a
  · have d1 := decide_eq_true h1
    have n1 : (ih.set p (.lst [.int (a / many), .int b, .int j]))[p]? = some (.lst [.int (a / many), .int b, .int j]) := g_set pl
    have kz := k (a % many) (ih.set p (.lst [.int (a / many), .int b, .int j])) (Int.emod_nonneg _ (by omega)) (Int.emod_lt_of_pos _ h0) ⟨_, _, _, n1, B.div ha h0, hb', k1, by omega⟩ (fun n _ ne => g_sne (Ne.symm ne)) (by rw [List.length_set])
    clear k n1 h1
    walk_at "run"
    rw [k_setL_of (xs := [.int a, .int b, .int j]) (i := 0) (j := 0) ixN_30]
    walk_at "run"
    all_goals exact kz
  · have d1 := decide_eq_false h1
    have n1 : (ih.set p (.lst [.int a, .int b, .int (j + 1)]))[p]? = some (.lst [.int a, .int b, .int (j + 1)]) := g_set pl
    have kz := fun v => k (v % many) (ih.set p (.lst [.int a, .int b, .int (j + 1)])) (Int.emod_nonneg _ (by omega)) (Int.emod_lt_of_pos _ h0) ⟨_, _, _, n1, ha, hb', by omega, by push_cast; omega⟩ (fun n _ ne => g_sne (Ne.symm ne)) (by rw [List.length_set])
    have jb : B 64 (j + 1) := B.lt (by omega) (Int.lt_of_le_of_lt (show j + 1 ≤ 1000001 by omega) (by decide))
    clear k h1
    walk_at "run"
    rw [k_setL_of (xs := [.int a, .int b, .int j]) (i := 2) (j := 2) ixN_32]
    walk_at "run"
    refine w_mixed c hb' jb fun v => ?_
    have ky := kz v
    clear kz n1
    walk_at "run"
    all_goals exact ky
theorem w_source (c : Cs) {ns : List Int} {k : Nat} {ih : IH} {Q : PQ IV} {E : EQ} (h : Scr ns ih) (hb : ∀ z ∈ ns, ibits z ≤ 1048576) (hk : k ≤ 1000000)
    (q : ∀ ih', Src0 ih.length 0 ih' → Fx ih ih' → ih'.length = ih.length + 1 → Q (.ref ih.length) ih') : wp (m_law_source c [.ref 0, .int (k : Int)] ih) Q E := by
  have h' : ih[0]? = some (.ro (ns.map IV.int)) := h
  have lm : (ns.map IV.int).length = ns.length := List.length_map _
  have c18 : cPow 10 18 = true := by decide
  have fin : ∀ v, B 1060000 v → wp (f_lst [.int (v * (if decide ((10 : Int) ^ 18 ≤ v) = true then 1 else 0)), .int v, .int 0] ih) (fun x ih' => Q x ih') E := fun v hv => by
    refine wp_lst (by simp) ?_
    refine q _ ⟨_, _, _, g_new, ?_, hv.mono (by decide), by decide, by decide⟩ Fx.app (by simp)
    split
    · rw [Int.mul_one]
      exact hv.mono (by decide)
    · rw [Int.mul_zero]
      exact (lit 1 : B 1 0).mono (by decide)
  have cm : ∀ v, B 1060000 v → cMul v (if decide ((10 : Int) ^ 18 ≤ v) = true then 1 else 0) = true := fun v hv => by
    split
    · exact B.cmul hv (lit 1 : B 1 1) (by decide)
    · exact B.cmul hv (lit 1 : B 1 0) (by decide)
  unfold m_law_source b_law_source
  by_cases hlt : k < ns.length
  · have d1 : decide ((k : Int) < (ns.length : Int)) = true := decide_eq_true (by omega)
    have ga : atI (ns.map IV.int) (k : Int) = some (.int ns[k]) := by
      refine atI_ok rfl ?_
      rw [List.getElem?_map, List.getElem?_eq_getElem hlt]
      rfl
    obtain ⟨v, ev⟩ : ∃ v, ns[k] = v := ⟨_, rfl⟩
    have hv : B 1060000 v := by rw [← ev]; exact (B.of_ib (hb _ (List.getElem_mem hlt))).mono (by decide)
    rw [ev] at ga
    have cm' := cm v hv
    have fn := fin v hv
    clear cm fin q ev hlt
    walk_at "run"
    rw [wp_intB]
    obtain ⟨t, et⟩ : ∃ t : Int, (if decide ((10 : Int) ^ 18 ≤ v) = true then 1 else 0) = t := ⟨_, rfl⟩
    rw [et] at cm' fn ⊢
    walk_at "run"
    exact fn
  · have d1 : decide ((k : Int) < (ns.length : Int)) = false := decide_eq_false (by omega)
    have hv : B 1060000 (k : Int) := B.mono (n := 30) (B.lt (by omega) (Int.lt_of_le_of_lt (show (k : Int) ≤ 1000000 by omega) (by decide))) (by decide)
    have cm' := cm k hv
    have fn := fin k hv
    clear cm fin q hlt
    walk_at "run"
    rw [wp_intB]
    obtain ⟨t, et⟩ : ∃ t : Int, (if decide ((10 : Int) ^ 18 ≤ (k : Int)) = true then 1 else 0) = t := ⟨_, rfl⟩
    rw [et] at cm' fn ⊢
    walk_at "run"
    exact fn
end L3
/-! N56: threads that are never sampled, in plain numbers. -/
namespace L3
def nsT (m g q : Int) (k : Nat) : Bool := decide ((((k : Int) + 1) * q - 1) * m / g = ((k : Int) * q - 1) * m / g)
def nsL (m g q : Int) (n : Nat) : List Nat := (List.range n).filter (nsT m g q)
def toZ (l : List Nat) : List Int := l.map fun k : Nat => (k : Int)
theorem nsL_scale {m g q M : Int} {n : Nat} (h : 0 < M) : nsL (m * M) (g * M) q n = nsL m g q n := by
  unfold nsL
  congr 1
  funext k
  unfold nsT
  rw [← Int.mul_assoc, ← Int.mul_assoc, Int.mul_ediv_mul_of_pos_left _ _ h, Int.mul_ediv_mul_of_pos_left _ _ h]
theorem div_m1 {x g M : Int} (h : 0 < M) : (x * M - 1) / (g * M) = (x - 1) / g := by
  rw [Int.mul_comm g M, ← Int.ediv_ediv_of_nonneg (Int.le_of_lt h)]
  congr 1
  rw [show x * M - 1 = (M - 1) + (x - 1) * M by rw [Int.sub_mul]; omega, Int.add_mul_ediv_right _ _ (by omega), Int.ediv_eq_zero_of_lt (by omega) (by omega), Int.zero_add]
theorem nsL_turns {g q M : Int} {n : Nat} (h : 0 < M) : nsL 1 (g * M) (q * M) n = nsL 1 g q n := by
  unfold nsL
  congr 1
  funext k
  unfold nsT
  rw [Int.mul_one, Int.mul_one, Int.mul_one, Int.mul_one, ← Int.mul_assoc, ← Int.mul_assoc, div_m1 h, div_m1 h]
theorem gcd_scale {a b M : Int} (h : 0 < M) : ((Int.gcd (a * M) (b * M) : Nat) : Int) = (Int.gcd a b : Nat) * M := by
  rw [Int.gcd_mul_right, Int.natCast_mul, Int.natAbs_of_nonneg (Int.le_of_lt h)]
theorem bez (a b : Nat) : ∃ u v : Int, ((Nat.gcd a b : Nat) : Int) = (a : Int) * u + (b : Int) * v := by
  induction a, b using Nat.gcd.induction with
  | H0 n => exact ⟨0, 1, by rw [Nat.gcd_zero_left]; omega⟩
  | H1 m n hm ih =>
    obtain ⟨u, v, e⟩ := ih
    refine ⟨v - (n / m : Nat) * u, u, ?_⟩
    rw [Nat.gcd_rec, e]
    have h : (n : Int) = (m : Int) * ((n / m : Nat) : Int) + ((n % m : Nat) : Int) := by
      have := Nat.div_add_mod n m
      exact_mod_cast this.symm
    rw [Int.mul_sub, ← Int.mul_assoc]
    have h2 : (n : Int) * u = (m : Int) * ((n / m : Nat) : Int) * u + ((n % m : Nat) : Int) * u := by
      conv => lhs; rw [h]
      rw [Int.add_mul]
    omega
/-- a tick begins within count x -/
def jmp (m D : Int) (x : Nat) : Bool := decide (((x : Int) - 1) * m / D < (x : Int) * m / D)
theorem jmp_iff {m D : Int} (hD : 0 < D) {x : Nat} : jmp m D x = true ↔ ∃ k, ((x : Int) - 1) * m < k * D ∧ k * D ≤ (x : Int) * m := by
  unfold jmp
  rw [decide_eq_true_eq]
  constructor
  · intro h
    exact ⟨_, (Int.ediv_lt_iff_lt_mul hD).mp h, (Int.le_ediv_iff_mul_le hD).mp (Int.le_refl _)⟩
  · rintro ⟨k, h1, h2⟩
    exact Int.lt_of_lt_of_le ((Int.ediv_lt_iff_lt_mul hD).mpr h1) ((Int.le_ediv_iff_mul_le hD).mpr h2)
theorem ns_iff {m g q : Int} (hg : 0 < g) (hm : 0 < m) (hq : 0 < q) {k : Nat} : nsT m g q k = false ↔ ∃ j, ((k : Int) * q - 1) * m < j * g ∧ j * g ≤ (((k : Int) + 1) * q - 1) * m := by
  have hl : ((k : Int) * q - 1) * m ≤ (((k : Int) + 1) * q - 1) * m := Int.mul_le_mul_of_nonneg_right (by rw [Int.add_mul]; omega) (Int.le_of_lt hm)
  unfold nsT
  rw [decide_eq_false_iff_not]
  constructor
  · intro h
    have h2 := Int.ediv_le_ediv hg hl
    exact ⟨_, (Int.ediv_lt_iff_lt_mul hg).mp (show ((k : Int) * q - 1) * m / g < (((k : Int) + 1) * q - 1) * m / g by omega), (Int.le_ediv_iff_mul_le hg).mp (Int.le_refl _)⟩
  · rintro ⟨j, h1, h2⟩ e
    have a := (Int.ediv_lt_iff_lt_mul hg).mpr h1
    have b := (Int.le_ediv_iff_mul_le hg).mpr h2
    omega
theorem cls_eq {q n x k t r : Nat} (hr : r < q) (hk : k < n) (hx : x = q * (k + n * t) + r) : x / q % n = k := by
  subst hx
  rw [Nat.mul_add_div (by omega), Nat.div_eq_of_lt hr, Nat.add_zero, Nat.add_mul_mod_self_left, Nat.mod_eq_of_lt hk]
theorem cls_ex {q n x : Nat} (hq : 0 < q) : ∃ t r, r < q ∧ x = q * (x / q % n + n * t) + r :=
  ⟨x / q / n, x % q, Nat.mod_lt _ hq, by rw [Nat.mod_add_div, Nat.div_add_mod]⟩
theorem due_iff {m D q n : Nat} (hm : 0 < m) (hD : 0 < D) (hq : 0 < q) {k : Nat} (hk : k < n) :
    nsT m (Nat.gcd D (q * n * m) : Nat) q k = false ↔ ∃ x, 1 ≤ x ∧ x ≤ q * n * D ∧ jmp m D x = true ∧ x / q % n = k := by
  have hg : 0 < Nat.gcd D (q * n * m) := Nat.gcd_pos_of_pos_left _ hD
  have hn : 0 < n := by omega
  have hD' : (0 : Int) < D := by omega
  have hm' : (0 : Int) < m := by omega
  rw [ns_iff (by omega) (by omega) (by omega)]
  constructor
  · rintro ⟨j, h1, h2⟩
    obtain ⟨u, v, e⟩ := bez D (q * n * m)
    obtain ⟨W, eW⟩ : ∃ W : Int, ((q * n * m : Nat) : Int) = W := ⟨_, rfl⟩
    have eW2 : W = (q : Int) * n * m := by rw [← eW]; push_cast; rfl
    rw [eW] at e
    obtain ⟨t, et⟩ : ∃ t : Int, (-(v * j)) % D = t := ⟨_, rfl⟩
    have t0 : 0 ≤ t := et ▸ Int.emod_nonneg _ (by omega)
    have t1 : t < D := et ▸ Int.emod_lt_of_pos _ hD'
    obtain ⟨w, ew⟩ : ∃ w : Int, v * j + t = D * w := ⟨-((-(v * j)) / D), by
      have := Int.emod_def (-(v * j)) D
      rw [Int.mul_neg]
      omega⟩
    have kk : ∃ kk : Int, j * (Nat.gcd D (q * n * m) : Nat) + t * W = kk * D := ⟨u * j + W * w, by
      have a1 : j * ((D : Int) * u + W * v) = D * (u * j) + W * (v * j) := by
        rw [Int.mul_add, Int.mul_left_comm j, Int.mul_left_comm j, Int.mul_comm j u, Int.mul_comm j v]
      have a2 : W * (v * j) = W * (D * w) - W * t := by rw [← Int.mul_sub]; congr 1; omega
      rw [e, a1, a2, Int.add_mul, Int.mul_comm t W, Int.mul_comm (u * j), Int.mul_assoc W w, Int.mul_comm w]
      omega⟩
    obtain ⟨kk, ek⟩ := kk
    obtain ⟨T, rfl⟩ := Int.eq_ofNat_of_zero_le t0
    -- the shifted bounds
    have s1 : ((k : Int) * q - 1 + T * (q * n)) * m < kk * D := by
      rw [← ek, eW2, Int.add_mul]
      have : (T : Int) * ((q : Int) * n) * m = T * (q * n * m) := by rw [Int.mul_assoc]
      omega
    have s2 : kk * D ≤ (((k : Int) + 1) * q - 1 + T * (q * n)) * m := by
      rw [← ek, eW2, Int.add_mul]
      have : (T : Int) * ((q : Int) * n) * m = T * (q * n * m) := by rw [Int.mul_assoc]
      omega
    -- the least count
    obtain ⟨x, ex⟩ : ∃ x : Int, -((-(kk * D)) / m) = x := ⟨_, rfl⟩
    have x1 : (x - 1) * m < kk * D := by
      have a := Int.emod_def (-(kk * D)) m
      have b := Int.emod_lt_of_pos (-(kk * D)) hm'
      have c2 : x * m = -(m * ((-(kk * D)) / m)) := by rw [← ex, Int.neg_mul, Int.mul_comm]
      rw [Int.sub_mul, Int.one_mul]
      omega
    have x2 : kk * D ≤ x * m := by
      have a := Int.emod_def (-(kk * D)) m
      have b := Int.emod_nonneg (-(kk * D)) (Int.ne_of_gt hm')
      have c2 : x * m = -(m * ((-(kk * D)) / m)) := by rw [← ex, Int.neg_mul, Int.mul_comm]
      omega
    have y1 : (k : Int) * q - 1 + T * (q * n) < x := Int.lt_of_mul_lt_mul_right (Int.lt_of_lt_of_le s1 x2) (Int.le_of_lt hm')
    have y2 : x - 1 < ((k : Int) + 1) * q - 1 + T * (q * n) := Int.lt_of_mul_lt_mul_right (Int.lt_of_lt_of_le x1 s2) (Int.le_of_lt hm')
    have y0 : 0 ≤ x := by
      have : 0 ≤ (k : Int) * q := Int.mul_nonneg (by omega) (by omega)
      have : 0 ≤ (T : Int) * (q * n) := Int.mul_nonneg (by omega) (Int.mul_nonneg (by omega) (by omega))
      omega
    obtain ⟨X, rfl⟩ := Int.eq_ofNat_of_zero_le y0
    rw [Int.add_mul, Int.one_mul] at y2
    have z1 : q * (k + n * T) ≤ X := by
      have : ((q * (k + n * T) : Nat) : Int) = (k : Int) * q + T * (q * n) := by push_cast; rw [Int.mul_add, Int.mul_comm (q : Int) k, ← Int.mul_assoc, Int.mul_comm (T : Int)]
      omega
    have z2 : X < q * (k + n * T) + q := by
      have : ((q * (k + n * T) : Nat) : Int) = (k : Int) * q + T * (q * n) := by push_cast; rw [Int.mul_add, Int.mul_comm (q : Int) k, ← Int.mul_assoc, Int.mul_comm (T : Int)]
      omega
    have z3 : q * (k + n * T) + q ≤ q * n * D := by
      have a : k + n * T + 1 ≤ n * D := by
        have : n * (T + 1) ≤ n * D := Nat.mul_le_mul_left _ (by omega)
        rw [Nat.mul_add] at this
        omega
      have b := Nat.mul_le_mul_left q a
      rw [Nat.mul_add, Nat.mul_one, ← Nat.mul_assoc] at b
      exact b
    by_cases hX : 1 ≤ X
    · exact ⟨X, hX, by omega, (jmp_iff hD').mpr ⟨kk, x1, x2⟩, cls_eq (r := X - q * (k + n * T)) (t := T) (by omega) hk (by omega)⟩
    · have hX0 : X = 0 := by omega
      subst hX0
      have hk0 : k = 0 := by
        rcases Nat.eq_zero_or_pos k with h | h
        · exact h
        · have := Nat.mul_le_mul_left q (show 1 ≤ k + n * T by omega)
          omega
      subst hk0
      refine ⟨q * n * D, Nat.mul_pos (Nat.mul_pos hq hn) hD, Nat.le_refl _, (jmp_iff hD').mpr ⟨kk + q * n * m, ?_, ?_⟩, ?_⟩
      · have : ((q * n * D : Nat) : Int) * m = (q : Int) * n * m * D := by push_cast; rw [Int.mul_right_comm]
        rw [Int.sub_mul, this, Int.add_mul]
        rw [Int.sub_mul] at x1
        omega
      · have : ((q * n * D : Nat) : Int) * m = (q : Int) * n * m * D := by push_cast; rw [Int.mul_right_comm]
        rw [this, Int.add_mul]
        omega
      · rw [Nat.mul_assoc, Nat.mul_div_cancel_left _ hq, Nat.mul_mod_right]
  · rintro ⟨x, h1, h2, hj, hc⟩
    obtain ⟨kk, j1, j2⟩ := (jmp_iff hD').mp hj
    obtain ⟨t, r, hr, ex⟩ := cls_ex (n := n) (x := x) hq
    rw [hc] at ex
    obtain ⟨d1, e1⟩ := Nat.gcd_dvd_left D (q * n * m)
    obtain ⟨d2, e2⟩ := Nat.gcd_dvd_right D (q * n * m)
    obtain ⟨G, eG⟩ : ∃ G, Nat.gcd D (q * n * m) = G := ⟨_, rfl⟩
    rw [eG] at e1 e2 ⊢
    have f1 : (D : Int) = G * d1 := by exact_mod_cast e1
    have f2 : (q : Int) * n * m = G * d2 := by exact_mod_cast e2
    have key : (kk * d1 - t * d2) * (G : Int) = kk * D - t * (q * n * m) := by
      rw [Int.sub_mul, f1, f2, Int.mul_assoc, Int.mul_assoc, Int.mul_comm (d1 : Int), Int.mul_comm (d2 : Int)]
    have ex' : (x : Int) = (k : Int) * q + t * (q * n) + r := by
      rw [ex]
      push_cast
      rw [Int.mul_add, Int.mul_comm (q : Int) k, ← Int.mul_assoc, Int.mul_comm (t : Int)]
    have tm : (t : Int) * (q * n) * m = t * (q * n * m) := by rw [Int.mul_assoc]
    refine ⟨kk * d1 - t * d2, ?_, ?_⟩
    · rw [key]
      have a : ((k : Int) * q - 1 + t * (q * n)) * m ≤ ((x : Int) - 1) * m := Int.mul_le_mul_of_nonneg_right (by omega) (by omega)
      rw [Int.add_mul, tm] at a
      omega
    · rw [key]
      have a : (x : Int) * m ≤ (((k : Int) + 1) * q - 1 + t * (q * n)) * m := Int.mul_le_mul_of_nonneg_right (by rw [Int.add_mul]; omega) (by omega)
      rw [Int.add_mul, tm] at a
      omega
/-- not yet sampled behind so many counts -/
def dueB (m D : Int) (q n j i : Nat) : Bool := (List.range j).all fun y => !(jmp m D (y + 1) && decide ((y + 1) / q % n = i))
theorem dueB_succ {m D : Int} {q n j i : Nat} : dueB m D q n (j + 1) i = (dueB m D q n j i && !(jmp m D (j + 1) && decide ((j + 1) / q % n = i))) := by
  unfold dueB
  rw [List.range_succ, List.all_append]
  simp
def stL (m D : Int) (q n j : Nat) : List Bool := (List.range n).map (dueB m D q n j)
theorem stL_0 {m D : Int} {q n : Nat} : stL m D q n 0 = List.replicate n true := by
  unfold stL dueB
  simp [List.map_const']
theorem stL_no {m D : Int} {q n j : Nat} (h : jmp m D (j + 1) = false) : stL m D q n (j + 1) = stL m D q n j := by
  unfold stL
  refine List.map_congr_left fun i _ => ?_
  rw [dueB_succ, h]
  simp
theorem stL_yes {m D : Int} {q n j : Nat} (h : jmp m D (j + 1) = true) : stL m D q n (j + 1) = (stL m D q n j).set ((j + 1) / q % n) false := by
  unfold stL
  refine List.ext_getElem? fun i => ?_
  rw [List.getElem?_map, List.getElem?_set]
  by_cases hi : i < n
  · rw [List.getElem?_range hi, List.length_map, List.length_range]
    show some _ = _
    rw [dueB_succ, h]
    by_cases e : (j + 1) / q % n = i
    · rw [if_pos e, e, if_pos hi]
      simp
    · rw [if_neg e, List.getElem?_map, List.getElem?_range hi]
      simp [e]
  · have e1 : (List.range n)[i]? = none := List.getElem?_eq_none (by simp; omega)
    rw [e1]
    by_cases e : (j + 1) / q % n = i
    · rw [if_pos e, if_neg (by simp; omega)]
      rfl
    · rw [if_neg e, List.getElem?_map, e1]
      rfl
theorem due_eq {m D q n : Nat} (hm : 0 < m) (hD : 0 < D) (hq : 0 < q) : (List.range n).filter (dueB m D q n (q * n * D)) = nsL m (Nat.gcd D (q * n * m) : Nat) q n := by
  unfold nsL
  refine List.filter_congr fun k hk => ?_
  have hk' := List.mem_range.mp hk
  have h := due_iff hm hD hq hk'
  cases e : nsT m (Nat.gcd D (q * n * m) : Nat) q k with
  | false =>
    obtain ⟨x, x1, x2, x3, x4⟩ := h.mp e
    unfold dueB
    rw [List.all_eq_false]
    refine ⟨x - 1, List.mem_range.mpr (by omega), ?_⟩
    rw [Nat.sub_add_cancel x1, x3, x4]
    simp
  | true =>
    unfold dueB
    rw [List.all_eq_true]
    intro y hy
    have hy' := List.mem_range.mp hy
    cases e2 : (jmp m D (y + 1) && decide ((y + 1) / q % n = k)) with
    | false => rfl
    | true =>
      rw [Bool.and_eq_true, decide_eq_true_eq] at e2
      rw [h.mpr ⟨y + 1, by omega, by omega, e2.1, e2.2⟩] at e
      cases e
/-- ticks without a factor in common with the rounds -/
theorem ns_1 {q : Int} {n : Nat} (hq : 0 < q) : nsL 1 1 q n = [] := by
  unfold nsL
  refine List.filter_eq_nil_iff.mpr fun k _ => ?_
  unfold nsT
  rw [decide_eq_true_eq, Int.ediv_one, Int.ediv_one, Int.add_mul]
  omega
theorem ns_W {q n : Nat} (hq : 0 < q) : nsL 1 ((q : Int) * n) q (n + 0) = (List.range n).filter fun k => decide (1 ≤ k) := by
  unfold nsL
  refine List.filter_congr fun k hk => ?_
  have hk' := List.mem_range.mp hk
  unfold nsT
  rw [Int.mul_one, Int.mul_one]
  have h2 : ((k : Int) + 1) * q ≤ q * n := by rw [Int.mul_comm (q : Int)]; exact Int.mul_le_mul_of_nonneg_right (by omega) (by omega)
  have h1 : 0 ≤ (k : Int) * q := Int.mul_nonneg (by omega) (by omega)
  have h3 : ((k : Int) + 1) * q = k * q + q := by rw [Int.add_mul]; omega
  rw [Int.ediv_eq_zero_of_lt (show 0 ≤ ((k : Int) + 1) * q - 1 by omega) (by omega)]
  by_cases hk1 : 1 ≤ k
  · have h4 : (q : Int) ≤ k * q := by
      have := Int.mul_le_mul_of_nonneg_right (show (1 : Int) ≤ k by omega) (show (0 : Int) ≤ q by omega)
      omega
    rw [Int.ediv_eq_zero_of_lt (by omega) (by omega), decide_eq_true hk1]
    rfl
  · have : k = 0 := by omega
    subst this
    rw [decide_eq_false hk1]
    simp only [Int.natCast_zero, Int.zero_mul]
    rw [decide_eq_false_iff_not]
    have : ((0 : Int) - 1) / ((q : Int) * n) < 0 := Int.ediv_neg_of_neg_of_pos (by decide) (by omega)
    omega
theorem ns_range (n : Nat) : toZ ((List.range (n + 1)).filter fun k => decide (1 ≤ k)) = (List.range n).map fun i : Nat => (1 : Int) + i := by
  unfold toZ
  rw [List.range_succ_eq_map, List.filter_cons]
  simp only [Nat.reduceLeDiff, decide_false, Bool.false_eq_true, if_false, List.filter_map, Function.comp_def]
  rw [List.filter_eq_self.mpr (by simp), List.map_map]
  refine List.map_congr_left fun i _ => ?_
  simp
  omega
end L3
/-! PW: is_whole. -/
namespace L3
open PySem PySem.Spec PyProof.Rows L2
local macro_rules | `(tactic| walk_at "get") => `(tactic| simp (disch := first | assumption | omega | (simp only [List.length_append, List.length_set, List.length_cons, List.length_nil, List.length_map] <;> omega) | fail) only [g_new, g_nw, g_old, g_set, g_sne, List.length_append, List.length_set, List.length_cons, List.length_nil, List.length_map, List.map_map, Function.comp_def, xs_lst, xs_tup, isL_lst, isL_tup, ↓reduceIte, *])
local macro_rules | `(tactic| walk_at "fr") => `(tactic| first | (intro _ _ _; simp (disch := first | assumption | omega | (simp only [List.length_append, List.length_set, List.length_cons, List.length_nil, List.length_map] <;> omega) | fail) only [g_new, g_nw, g_old, g_set, g_sne, List.length_append, List.length_set, List.length_cons, List.length_nil, List.length_map, List.map_map, Function.comp_def, xs_lst, xs_tup, isL_lst, isL_tup, ↓reduceIte, *]) | (intro _ _; simp (disch := first | assumption | omega | (simp only [List.length_append, List.length_set, List.length_cons, List.length_nil, List.length_map] <;> omega) | fail) only [g_new, g_nw, g_old, g_set, g_sne, List.length_append, List.length_set, List.length_cons, List.length_nil, List.length_map, List.map_map, Function.comp_def, xs_lst, xs_tup, isL_lst, isL_tup, ↓reduceIte, *]))
local macro_rules | `(tactic| walk_at "run") => `(tactic| simp -implicitDefEqProofs (disch := first | assumption | omega | (simp only [List.length_append, List.length_set, List.length_cons, List.length_nil, List.length_map] <;> omega) | fail) only [wp_ok, wp_exc, wp_stuck, ws_ok, ws_exc, ws_stuck, wp_op, kk_op, kk_un, wp_un, wp_cons, kk_cons, kk_cons2, wp_nil, wp_c, wp_app, wp_if, kk_if1, kk_if0, wp_and, kk_and1, kk_and0, wp_or, kk_or1, kk_or0, wp_not, kk_not, wp_tb, kk_tb, wp_andV, kk_andV1, kk_andV0, wp_orV, kk_orV1, kk_orV0, wp_notV, kk_notV, wp_noneS, wp_some, kk_some, wp_sl, kk_sl, kk_sl2, kk_sl3, wp_mL, kk_mL, kk_mL2, wp_mL0, kk_mL0, wp_chain, kk_ch, kk_ch2, kk_ch31, kk_ch30, ws_set, kks_nm, kks_g, kks_tup, kks_lst, ws_expr, kks_expr, ws_ret, kks_ret, ws_retN, ws_pass, ws_brk, ws_cont, ws_raise, ws_if, kks_if1, kks_if0, ws_seq, kks_next, kks_retS, kks_brk, kks_cont, kk_augE, ws_aug, kks_aug, kks_aug2, ws_par, kks_par, ws_setL, kks_sl, kks_sl2, kks_sl3, wp_def, kkd_ret, kkd_next, kkdE, kkE, ws_for, wp_lc, wp_r1, kk_r1, wp_r2, kk_r2, wp_il, wp_it, wp_ie, wp_iz, kk_il, kk_il2, kk_it, kk_it2, kk_ie, kk_ie2, kk_iz, kk_iz2, lAt_k, k_lAtL, k_lAtO, k_lAtT, wp_int, wp_add, wp_addI, wp_sub, wp_neg, wp_lt, wp_le, wp_gt, wp_ge, wp_max2, wp_min2, wp_abs, wp_mulI, wp_mul, wp_fdiv, wp_mod, wp_shl, wp_shr, wp_pow, wp_isN, wp_notN, wp_eqI, wp_neI, wp_ix, kk_ix, kk_ix2, wp_len, kk_lenL, kk_lenT, kk_lenO, kk_lenP, wp_appd, kk_app1, isL_k, kk_isL, startI_cons, startI_nil, rep_succ, rep_zero, List.getElem?_cons_zero, List.getElem?_cons_succ, List.set_cons_zero, List.set_cons_succ, f_call, m_var, List.append_nil, List.nil_append, List.cons_append, List.length_cons, List.length_nil, if_true, if_false, g_tup, g_lst, g_cons, g_nil, g_nm, Option.bind_some, kks_g, atI_0, atI_1, atI_2, atI_3, atI_4, atI_5, atI_6, atI_7, atI_8, atI_9, atI_10, atI_11, atI_12, atI_last, cutI_1, ixN_30, ixN_31, ixN_32, Int.toNat_zero, Int.reduceToNat, Int.reduceNeg, xs_lst, xs_tup, xs_ro, xs_rot, isL_lst, isL_tup, isL_ro, isL_rot, isT_tup, isT_rot, Bool.false_eq_true, Bool.true_eq_false, Bool.not_true, Bool.not_false, decide_true, decide_false, Int.reduceLT, Int.reduceLE, Nat.reduceLT, Nat.reduceLeDiff, Nat.reduceAdd, Nat.reduceEqDiff, Bool.not_eq_true, true_and, and_true, and_self, eq_self, g_new, g_nw, g_old, g_set, g_sne, List.length_set, List.length_append, wp_r3, kk_r3, Int.cast_ofNat_Int, Int.reduceEq, Int.natCast_zero, Int.natCast_one, ws_whileA, wp_isiII, wp_isiIB, wp_isiR, tyO_l, tyO_t, kk_isi, kk_isi2, kit_ll, kit_tt, kit_lt, kit_tl, wp_isiN, wp_isiBl, wp_isiS, tyO_d, kit2_NoneType_int, kit2_NoneType_bool, kit2_NoneType_list, kit2_NoneType_tuple, kit2_NoneType_str, kit2_bool_int, kit2_bool_bool, kit2_bool_list, kit2_bool_tuple, kit2_bool_str, kit2_str_int, kit2_str_bool, kit2_str_list, kit2_str_tuple, kit2_str_str, kit2_dict_int, kit2_dict_bool, kit2_dict_list, kit2_dict_tuple, kit2_dict_str, kit2_list_int, kit2_list_bool, kit2_list_str, kit2_tuple_int, kit2_tuple_bool, kit2_tuple_str, kit2_int_list, kit2_int_tuple, kit2_int_str, kf_next, kf_cont, kf_brk, kf_ret, wipeI, ↓reduceIte, *])
theorem q_whole (c : Cs) (i l : Int) (ih : IH) (Q : PQ IV) (E : EQ) : wp (m_is_whole c [.int i, .int l] ih) Q E = Q (.bl (decide (l ≤ i))) ih := by
  have a3 : decide (IV.int l = IV.non) = false := rfl
  unfold m_is_whole b_is_whole
  walk_at "run"
theorem q_whole0 (c : Cs) (i : Int) (ih : IH) (Q : PQ IV) (E : EQ) : wp (m_is_whole c [.int i, .non] ih) Q E = Q (.bl true) ih := by
  have a3 : decide (IV.non = IV.non) = true := rfl
  unfold m_is_whole b_is_whole
  walk_at "run"
end L3
/-! P0: powers of two. -/
namespace L3
open PySem PySem.Spec PyProof.Rows L2
theorem pow_pos (w : Int) : (0 : Int) < 2 ^ w.toNat := Int.pow_pos (by decide)
theorem pow_B {w : Int} (h0 : 0 ≤ w) (h1 : w ≤ 64) : B 65 ((2 : Int) ^ w.toNat) := by
  refine B.lt (Int.le_of_lt (pow_pos w)) ?_
  obtain ⟨k, rfl⟩ := Int.eq_ofNat_of_zero_le h0
  exact_mod_cast Nat.pow_lt_pow_right (by decide) (by omega)
theorem shl_w {w : Int} (h0 : 0 ≤ w) (h1 : w ≤ 1000000) : cShl 1 w = true ∧ (1 : Int) * 2 ^ w.toNat = 2 ^ w.toNat := by
  obtain ⟨k, rfl⟩ := Int.eq_ofNat_of_zero_le h0
  exact ⟨cShl_of (lit 1 : B 1 1) (by omega), Int.one_mul _⟩
end L3
/-! QS: is_shift. -/
namespace L3
open PySem PySem.Spec PyProof.Rows L2
local macro_rules | `(tactic| walk_at "get") => `(tactic| simp (disch := first | assumption | omega | (simp only [List.length_append, List.length_set, List.length_cons, List.length_nil, List.length_map] <;> omega) | fail) only [g_new, g_nw, g_old, g_set, g_sne, List.length_append, List.length_set, List.length_cons, List.length_nil, List.length_map, List.map_map, Function.comp_def, xs_lst, xs_tup, isL_lst, isL_tup, ↓reduceIte, *])
local macro_rules | `(tactic| walk_at "fr") => `(tactic| first | (intro _ _ _; simp (disch := first | assumption | omega | (simp only [List.length_append, List.length_set, List.length_cons, List.length_nil, List.length_map] <;> omega) | fail) only [g_new, g_nw, g_old, g_set, g_sne, List.length_append, List.length_set, List.length_cons, List.length_nil, List.length_map, List.map_map, Function.comp_def, xs_lst, xs_tup, isL_lst, isL_tup, ↓reduceIte, *]) | (intro _ _; simp (disch := first | assumption | omega | (simp only [List.length_append, List.length_set, List.length_cons, List.length_nil, List.length_map] <;> omega) | fail) only [g_new, g_nw, g_old, g_set, g_sne, List.length_append, List.length_set, List.length_cons, List.length_nil, List.length_map, List.map_map, Function.comp_def, xs_lst, xs_tup, isL_lst, isL_tup, ↓reduceIte, *]))
local macro_rules | `(tactic| walk_at "run") => `(tactic| simp -implicitDefEqProofs (disch := first | assumption | omega | (simp only [List.length_append, List.length_set, List.length_cons, List.length_nil, List.length_map] <;> omega) | fail) only [wp_ok, wp_exc, wp_stuck, ws_ok, ws_exc, ws_stuck, wp_op, kk_op, kk_un, wp_un, wp_cons, kk_cons, kk_cons2, wp_nil, wp_c, wp_app, wp_if, kk_if1, kk_if0, wp_and, kk_and1, kk_and0, wp_or, kk_or1, kk_or0, wp_not, kk_not, wp_tb, kk_tb, wp_andV, kk_andV1, kk_andV0, wp_orV, kk_orV1, kk_orV0, wp_notV, kk_notV, wp_noneS, wp_some, kk_some, wp_sl, kk_sl, kk_sl2, kk_sl3, wp_mL, kk_mL, kk_mL2, wp_mL0, kk_mL0, wp_chain, kk_ch, kk_ch2, kk_ch31, kk_ch30, ws_set, kks_nm, kks_g, kks_tup, kks_lst, ws_expr, kks_expr, ws_ret, kks_ret, ws_retN, ws_pass, ws_brk, ws_cont, ws_raise, ws_if, kks_if1, kks_if0, ws_seq, kks_next, kks_retS, kks_brk, kks_cont, kk_augE, ws_aug, kks_aug, kks_aug2, ws_par, kks_par, ws_setL, kks_sl, kks_sl2, kks_sl3, wp_def, kkd_ret, kkd_next, kkdE, kkE, ws_for, wp_lc, wp_r1, kk_r1, wp_r2, kk_r2, wp_il, wp_it, wp_ie, wp_iz, kk_il, kk_il2, kk_it, kk_it2, kk_ie, kk_ie2, kk_iz, kk_iz2, lAt_k, k_lAtL, k_lAtO, k_lAtT, wp_int, wp_add, wp_addI, wp_sub, wp_neg, wp_lt, wp_le, wp_gt, wp_ge, wp_max2, wp_min2, wp_abs, wp_mulI, wp_mul, wp_fdiv, wp_mod, wp_shl, wp_shr, wp_pow, wp_isN, wp_notN, wp_eqI, wp_neI, wp_ix, kk_ix, kk_ix2, wp_len, kk_lenL, kk_lenT, kk_lenO, kk_lenP, wp_appd, kk_app1, isL_k, kk_isL, startI_cons, startI_nil, rep_succ, rep_zero, List.getElem?_cons_zero, List.getElem?_cons_succ, List.set_cons_zero, List.set_cons_succ, f_call, m_var, List.append_nil, List.nil_append, List.cons_append, List.length_cons, List.length_nil, if_true, if_false, g_tup, g_lst, g_cons, g_nil, g_nm, Option.bind_some, kks_g, atI_0, atI_1, atI_2, atI_3, atI_4, atI_5, atI_6, atI_7, atI_8, atI_9, atI_10, atI_11, atI_12, atI_last, cutI_1, ixN_30, ixN_31, ixN_32, Int.toNat_zero, Int.reduceToNat, Int.reduceNeg, xs_lst, xs_tup, xs_ro, xs_rot, isL_lst, isL_tup, isL_ro, isL_rot, isT_tup, isT_rot, Bool.false_eq_true, Bool.true_eq_false, Bool.not_true, Bool.not_false, decide_true, decide_false, Int.reduceLT, Int.reduceLE, Nat.reduceLT, Nat.reduceLeDiff, Nat.reduceAdd, Nat.reduceEqDiff, Bool.not_eq_true, true_and, and_true, and_self, eq_self, g_new, g_nw, g_old, g_set, g_sne, List.length_set, List.length_append, wp_r3, kk_r3, Int.cast_ofNat_Int, Int.reduceEq, Int.natCast_zero, Int.natCast_one, ws_whileA, wp_isiII, wp_isiIB, wp_isiR, tyO_l, tyO_t, kk_isi, kk_isi2, kit_ll, kit_tt, kit_lt, kit_tl, wp_isiN, wp_isiBl, wp_isiS, tyO_d, kit2_NoneType_int, kit2_NoneType_bool, kit2_NoneType_list, kit2_NoneType_tuple, kit2_NoneType_str, kit2_bool_int, kit2_bool_bool, kit2_bool_list, kit2_bool_tuple, kit2_bool_str, kit2_str_int, kit2_str_bool, kit2_str_list, kit2_str_tuple, kit2_str_str, kit2_dict_int, kit2_dict_bool, kit2_dict_list, kit2_dict_tuple, kit2_dict_str, kit2_list_int, kit2_list_bool, kit2_list_str, kit2_tuple_int, kit2_tuple_bool, kit2_tuple_str, kit2_int_list, kit2_int_tuple, kit2_int_str, kf_next, kf_cont, kf_brk, kf_ret, wipeI, ↓reduceIte, *])
theorem q_shift (c : Cs) {h : Int} (h0 : 0 ≤ h) (h1 : h ≤ 64) (ih : IH) (Q : PQ IV) (E : EQ) : wp (m_is_shift c [.int h] ih) Q E = Q (.bl true) ih := by
  have a := q_whole c h 0
  unfold m_is_shift b_is_shift
  walk_at "run"
end L3
/-! PP: power. -/
namespace L3
open PySem PySem.Spec PyProof.Rows L2
local macro_rules | `(tactic| walk_at "get") => `(tactic| simp (disch := first | assumption | omega | (simp only [List.length_append, List.length_set, List.length_cons, List.length_nil, List.length_map] <;> omega) | fail) only [g_new, g_nw, g_old, g_set, g_sne, List.length_append, List.length_set, List.length_cons, List.length_nil, List.length_map, List.map_map, Function.comp_def, xs_lst, xs_tup, isL_lst, isL_tup, ↓reduceIte, *])
local macro_rules | `(tactic| walk_at "fr") => `(tactic| first | (intro _ _ _; simp (disch := first | assumption | omega | (simp only [List.length_append, List.length_set, List.length_cons, List.length_nil, List.length_map] <;> omega) | fail) only [g_new, g_nw, g_old, g_set, g_sne, List.length_append, List.length_set, List.length_cons, List.length_nil, List.length_map, List.map_map, Function.comp_def, xs_lst, xs_tup, isL_lst, isL_tup, ↓reduceIte, *]) | (intro _ _; simp (disch := first | assumption | omega | (simp only [List.length_append, List.length_set, List.length_cons, List.length_nil, List.length_map] <;> omega) | fail) only [g_new, g_nw, g_old, g_set, g_sne, List.length_append, List.length_set, List.length_cons, List.length_nil, List.length_map, List.map_map, Function.comp_def, xs_lst, xs_tup, isL_lst, isL_tup, ↓reduceIte, *]))
local macro_rules | `(tactic| walk_at "run") => `(tactic| simp -implicitDefEqProofs (disch := first | assumption | omega | (simp only [List.length_append, List.length_set, List.length_cons, List.length_nil, List.length_map] <;> omega) | fail) only [wp_ok, wp_exc, wp_stuck, ws_ok, ws_exc, ws_stuck, wp_op, kk_op, kk_un, wp_un, wp_cons, kk_cons, kk_cons2, wp_nil, wp_c, wp_app, wp_if, kk_if1, kk_if0, wp_and, kk_and1, kk_and0, wp_or, kk_or1, kk_or0, wp_not, kk_not, wp_tb, kk_tb, wp_andV, kk_andV1, kk_andV0, wp_orV, kk_orV1, kk_orV0, wp_notV, kk_notV, wp_noneS, wp_some, kk_some, wp_sl, kk_sl, kk_sl2, kk_sl3, wp_mL, kk_mL, kk_mL2, wp_mL0, kk_mL0, wp_chain, kk_ch, kk_ch2, kk_ch31, kk_ch30, ws_set, kks_nm, kks_g, kks_tup, kks_lst, ws_expr, kks_expr, ws_ret, kks_ret, ws_retN, ws_pass, ws_brk, ws_cont, ws_raise, ws_if, kks_if1, kks_if0, ws_seq, kks_next, kks_retS, kks_brk, kks_cont, kk_augE, ws_aug, kks_aug, kks_aug2, ws_par, kks_par, ws_setL, kks_sl, kks_sl2, kks_sl3, wp_def, kkd_ret, kkd_next, kkdE, kkE, ws_for, wp_lc, wp_r1, kk_r1, wp_r2, kk_r2, wp_il, wp_it, wp_ie, wp_iz, kk_il, kk_il2, kk_it, kk_it2, kk_ie, kk_ie2, kk_iz, kk_iz2, lAt_k, k_lAtL, k_lAtO, k_lAtT, wp_int, wp_add, wp_addI, wp_sub, wp_neg, wp_lt, wp_le, wp_gt, wp_ge, wp_max2, wp_min2, wp_abs, wp_mulI, wp_mul, wp_fdiv, wp_mod, wp_shl, wp_shr, wp_pow, wp_isN, wp_notN, wp_eqI, wp_neI, wp_ix, kk_ix, kk_ix2, wp_len, kk_lenL, kk_lenT, kk_lenO, kk_lenP, wp_appd, kk_app1, isL_k, kk_isL, startI_cons, startI_nil, rep_succ, rep_zero, List.getElem?_cons_zero, List.getElem?_cons_succ, List.set_cons_zero, List.set_cons_succ, f_call, m_var, List.append_nil, List.nil_append, List.cons_append, List.length_cons, List.length_nil, if_true, if_false, g_tup, g_lst, g_cons, g_nil, g_nm, Option.bind_some, kks_g, atI_0, atI_1, atI_2, atI_3, atI_4, atI_5, atI_6, atI_7, atI_8, atI_9, atI_10, atI_11, atI_12, atI_last, cutI_1, ixN_30, ixN_31, ixN_32, Int.toNat_zero, Int.reduceToNat, Int.reduceNeg, xs_lst, xs_tup, xs_ro, xs_rot, isL_lst, isL_tup, isL_ro, isL_rot, isT_tup, isT_rot, Bool.false_eq_true, Bool.true_eq_false, Bool.not_true, Bool.not_false, decide_true, decide_false, Int.reduceLT, Int.reduceLE, Nat.reduceLT, Nat.reduceLeDiff, Nat.reduceAdd, Nat.reduceEqDiff, Bool.not_eq_true, true_and, and_true, and_self, eq_self, g_new, g_nw, g_old, g_set, g_sne, List.length_set, List.length_append, wp_r3, kk_r3, Int.cast_ofNat_Int, Int.reduceEq, Int.natCast_zero, Int.natCast_one, ws_whileA, wp_isiII, wp_isiIB, wp_isiR, tyO_l, tyO_t, kk_isi, kk_isi2, kit_ll, kit_tt, kit_lt, kit_tl, wp_isiN, wp_isiBl, wp_isiS, tyO_d, kit2_NoneType_int, kit2_NoneType_bool, kit2_NoneType_list, kit2_NoneType_tuple, kit2_NoneType_str, kit2_bool_int, kit2_bool_bool, kit2_bool_list, kit2_bool_tuple, kit2_bool_str, kit2_str_int, kit2_str_bool, kit2_str_list, kit2_str_tuple, kit2_str_str, kit2_dict_int, kit2_dict_bool, kit2_dict_list, kit2_dict_tuple, kit2_dict_str, kit2_list_int, kit2_list_bool, kit2_list_str, kit2_tuple_int, kit2_tuple_bool, kit2_tuple_str, kit2_int_list, kit2_int_tuple, kit2_int_str, kf_next, kf_cont, kf_brk, kf_ret, wipeI, ↓reduceIte, *])
theorem q_power (c : Cs) {w : Int} (h0 : 0 ≤ w) (h1 : w ≤ 1000000) (ih : IH) (Q : PQ IV) (E : EQ) : wp (m_power c [.int w] ih) Q E = Q (.int (2 ^ w.toNat)) ih := by
  obtain ⟨c1, c2⟩ := shl_w h0 h1
  unfold m_power b_power
  walk_at "run"
end L3
/-! RA: rates. -/
namespace L3
open PySem PySem.Spec PyProof.Rows L2
local macro_rules | `(tactic| walk_at "get") => `(tactic| simp (disch := first | assumption | omega | (simp only [List.length_append, List.length_set, List.length_cons, List.length_nil, List.length_map] <;> omega) | fail) only [g_new, g_nw, g_old, g_set, g_sne, List.length_append, List.length_set, List.length_cons, List.length_nil, List.length_map, List.map_map, Function.comp_def, xs_lst, xs_tup, isL_lst, isL_tup, ↓reduceIte, *])
local macro_rules | `(tactic| walk_at "fr") => `(tactic| first | (intro _ _ _; simp (disch := first | assumption | omega | (simp only [List.length_append, List.length_set, List.length_cons, List.length_nil, List.length_map] <;> omega) | fail) only [g_new, g_nw, g_old, g_set, g_sne, List.length_append, List.length_set, List.length_cons, List.length_nil, List.length_map, List.map_map, Function.comp_def, xs_lst, xs_tup, isL_lst, isL_tup, ↓reduceIte, *]) | (intro _ _; simp (disch := first | assumption | omega | (simp only [List.length_append, List.length_set, List.length_cons, List.length_nil, List.length_map] <;> omega) | fail) only [g_new, g_nw, g_old, g_set, g_sne, List.length_append, List.length_set, List.length_cons, List.length_nil, List.length_map, List.map_map, Function.comp_def, xs_lst, xs_tup, isL_lst, isL_tup, ↓reduceIte, *]))
local macro_rules | `(tactic| walk_at "run") => `(tactic| simp -implicitDefEqProofs (disch := first | assumption | omega | (simp only [List.length_append, List.length_set, List.length_cons, List.length_nil, List.length_map] <;> omega) | fail) only [wp_ok, wp_exc, wp_stuck, ws_ok, ws_exc, ws_stuck, wp_op, kk_op, kk_un, wp_un, wp_cons, kk_cons, kk_cons2, wp_nil, wp_c, wp_app, wp_if, kk_if1, kk_if0, wp_and, kk_and1, kk_and0, wp_or, kk_or1, kk_or0, wp_not, kk_not, wp_tb, kk_tb, wp_andV, kk_andV1, kk_andV0, wp_orV, kk_orV1, kk_orV0, wp_notV, kk_notV, wp_noneS, wp_some, kk_some, wp_sl, kk_sl, kk_sl2, kk_sl3, wp_mL, kk_mL, kk_mL2, wp_mL0, kk_mL0, wp_chain, kk_ch, kk_ch2, kk_ch31, kk_ch30, ws_set, kks_nm, kks_g, kks_tup, kks_lst, ws_expr, kks_expr, ws_ret, kks_ret, ws_retN, ws_pass, ws_brk, ws_cont, ws_raise, ws_if, kks_if1, kks_if0, ws_seq, kks_next, kks_retS, kks_brk, kks_cont, kk_augE, ws_aug, kks_aug, kks_aug2, ws_par, kks_par, ws_setL, kks_sl, kks_sl2, kks_sl3, wp_def, kkd_ret, kkd_next, kkdE, kkE, ws_for, wp_lc, wp_r1, kk_r1, wp_r2, kk_r2, wp_il, wp_it, wp_ie, wp_iz, kk_il, kk_il2, kk_it, kk_it2, kk_ie, kk_ie2, kk_iz, kk_iz2, lAt_k, k_lAtL, k_lAtO, k_lAtT, wp_int, wp_add, wp_addI, wp_sub, wp_neg, wp_lt, wp_le, wp_gt, wp_ge, wp_max2, wp_min2, wp_abs, wp_mulI, wp_mul, wp_fdiv, wp_mod, wp_shl, wp_shr, wp_pow, wp_isN, wp_notN, wp_eqI, wp_neI, wp_ix, kk_ix, kk_ix2, wp_len, kk_lenL, kk_lenT, kk_lenO, kk_lenP, wp_appd, kk_app1, isL_k, kk_isL, startI_cons, startI_nil, rep_succ, rep_zero, List.getElem?_cons_zero, List.getElem?_cons_succ, List.set_cons_zero, List.set_cons_succ, f_call, m_var, List.append_nil, List.nil_append, List.cons_append, List.length_cons, List.length_nil, if_true, if_false, g_tup, g_lst, g_cons, g_nil, g_nm, Option.bind_some, kks_g, atI_0, atI_1, atI_2, atI_3, atI_4, atI_5, atI_6, atI_7, atI_8, atI_9, atI_10, atI_11, atI_12, atI_last, cutI_1, ixN_30, ixN_31, ixN_32, Int.toNat_zero, Int.reduceToNat, Int.reduceNeg, xs_lst, xs_tup, xs_ro, xs_rot, isL_lst, isL_tup, isL_ro, isL_rot, isT_tup, isT_rot, Bool.false_eq_true, Bool.true_eq_false, Bool.not_true, Bool.not_false, decide_true, decide_false, Int.reduceLT, Int.reduceLE, Nat.reduceLT, Nat.reduceLeDiff, Nat.reduceAdd, Nat.reduceEqDiff, Bool.not_eq_true, true_and, and_true, and_self, eq_self, g_new, g_nw, g_old, g_set, g_sne, List.length_set, List.length_append, wp_r3, kk_r3, Int.cast_ofNat_Int, Int.reduceEq, Int.natCast_zero, Int.natCast_one, ws_whileA, wp_isiII, wp_isiIB, wp_isiR, tyO_l, tyO_t, kk_isi, kk_isi2, kit_ll, kit_tt, kit_lt, kit_tl, wp_isiN, wp_isiBl, wp_isiS, tyO_d, kit2_NoneType_int, kit2_NoneType_bool, kit2_NoneType_list, kit2_NoneType_tuple, kit2_NoneType_str, kit2_bool_int, kit2_bool_bool, kit2_bool_list, kit2_bool_tuple, kit2_bool_str, kit2_str_int, kit2_str_bool, kit2_str_list, kit2_str_tuple, kit2_str_str, kit2_dict_int, kit2_dict_bool, kit2_dict_list, kit2_dict_tuple, kit2_dict_str, kit2_list_int, kit2_list_bool, kit2_list_str, kit2_tuple_int, kit2_tuple_bool, kit2_tuple_str, kit2_int_list, kit2_int_tuple, kit2_int_str, kf_next, kf_cont, kf_brk, kf_ret, wipeI, ↓reduceIte, *])
theorem q_mult (c : Cs) {m : Int} (h0 : 1 ≤ m) (h1 : m < 2 ^ 64) (ih : IH) (Q : PQ IV) (E : EQ) : wp (m_is_mult c [.int m] ih) Q E = Q (.bl true) ih := by
  have a := q_whole c m 1
  have b := q_power c (w := 64) (by decide) (by decide)
  have e : ((2 : Int) ^ (64 : Int).toNat) = 2 ^ 64 := rfl
  rw [e] at b
  unfold m_is_mult b_is_mult
  walk_at "run"
theorem q_rate (c : Cs) {t : Nat} {m h : Int} {ih : IH} (g : ih[t]? = some (.tup [.int m, .int h])) (m0 : 1 ≤ m) (m1 : m < 2 ^ 64) (h0 : 0 ≤ h) (h1 : h ≤ 64) (Q : PQ IV) (E : EQ) : wp (m_check_rate c [.ref t] ih) Q E = Q .non ih := by
  have a := q_mult c m0 m1
  have b := q_shift c h0 h1
  have e : decide (((0 : Nat) : Int) + 1 + 1 = 2) = true := rfl
  unfold m_check_rate b_check_rate
  walk_at "run"
end L3
/-! L9: comprehensions whose parts allocate or draw; rows of pairs. -/
namespace L3
open PySem PySem.Spec PyProof.Rows L2
section
variable {Q : PQ IV} {E : EQ} {env : Env} {ih : IH}
/-- a comprehension, with an invariant -/
theorem lc_gen {vs : List Nat} {g : IV → Env → IH → Option Env} {mt : Env → IH → Res Bool} {me : Env → IH → Res IV} {s : Src} (k : Nat) (P : Nat → List IV → IH → Prop) (hk : k ≤ s.size ih) (h0 : P 0 [] (ih ++ [.lst []]))
    (turn : ∀ i acc ih', i < k → P i acc ih' → ih'[ih.length]? = some (.lst acc) → ∃ v ih1 env1, s.turn i ih' = .item v ih1 ∧ g v (wipeI env vs) ih1 = some env1 ∧ wp (mt env1 ih1) (fun b ih2 => (b = false → ih2[ih.length]? = some (.lst acc) ∧ P (i + 1) acc ih2) ∧
      (b = true → wp (me env1 ih2) (fun y ih3 => ih3[ih.length]? = some (.lst acc) ∧ acc.length < 100000 ∧ P (i + 1) (acc ++ [y]) (ih3.set ih.length (.lst (acc ++ [y])))) E0)) E0)
    (stop : ∀ acc ih', P k acc ih' → ih'[ih.length]? = some (.lst acc) → s.turn k ih' = .stop)
    (fin : ∀ acc ih', P k acc ih' → ih'[ih.length]? = some (.lst acc) → Q (.ref ih.length) ih') : k_lc vs g mt me env Q E s ih := by
  obtain ⟨acc', ih', e1, e2, e3⟩ := lcGo_ind (s := s) (g := g) (n := mt) (me := me) (d := ih.length) (env := wipeI env vs) k P
    (fun i acc ih' hi hp hd => by
      obtain ⟨v, ih1, env1, t1, t2, t3⟩ := turn i acc ih' hi hp hd
      obtain ⟨b, ih2, e1, e2, e3⟩ := t3.out
      refine ⟨v, ih1, env1, b, ih2, t1, t2, e1, e2, fun hb => ?_⟩
      obtain ⟨y, ih3, f1, f2, f3, f4⟩ := (e3 hb).out
      exact ⟨y, ih3, f1, f2, f3, f4⟩)
    stop (s.size ih + 1) 0 [] (ih ++ [.lst []]) (Nat.zero_le _) (by omega) h0 (get_new _ _)
  exact wp.of e1 (fin acc' ih' e3 e2)
/-- over a range, with a test that allocates -/
theorem lc_rngA {vs : List Nat} {i : Nat} {mt : Env → IH → Res Bool} {me : Env → IH → Res IV} {j : Nat} {lo : Int} (T : Nat → Bool) (F : Nat → IV) (hz : j < 100000)
    (ht : ∀ k, k < j → ∀ ih', Fx ih ih' → ih.length ≤ ih'.length → wp (mt ((wipeI env vs).set i (some (.int (lo + (k : Int))))) ih') (fun v ih'' => v = T k ∧ Fx ih' ih'' ∧ ih'.length ≤ ih''.length) E0)
    (he : ∀ k, k < j → T k = true → ∀ ih', Fx ih ih' → ih.length ≤ ih'.length → wp (me ((wipeI env vs).set i (some (.int (lo + (k : Int))))) ih') (fun v ih'' => v = F k ∧ Fx ih' ih'' ∧ ih'.length ≤ ih''.length) E0)
    (q : ∀ ih', Fx ih ih' → ih.length < ih'.length → ih'[ih.length]? = some (.lst (((List.range j).filter T).map F)) → Q (.ref ih.length) ih') : k_lc vs (g_nm i) mt me env Q E (.rng lo 1 j) ih := by
  refine lc_gen j (fun k acc ih' => acc = ((List.range k).filter T).map F ∧ Fx ih ih' ∧ ih.length < ih'.length) (Nat.le_refl _) ⟨by simp, Fx.app, by simp⟩ (fun k acc ih' hk ⟨ha, fx, lx⟩ hd => ?_) (fun acc ih' _ _ => stop_rng) fun acc ih' ⟨ha, fx, lx⟩ hd => q ih' fx lx (by rw [← ha]; exact hd)
  have e0 : lo + (k : Int) * 1 = lo + (k : Int) := by omega
  refine ⟨.int (lo + (k : Int)), _, _, by rw [turn_rng hk, e0], rfl, (ht k hk ih' fx (by omega)).imp (fun v ih2 ⟨hv, f2, l2⟩ => ⟨fun hb => ⟨by rw [f2 _ lx]; exact hd, ?_, fx.trans f2 (by omega), by omega⟩, fun hb => (he k hk (by rw [← hv]; exact hb) ih2 (fx.trans f2 (by omega)) (by omega)).imp (fun y ih3 ⟨hy, f3, l3⟩ => ⟨by rw [f3 _ (by omega), f2 _ lx]; exact hd, ?_, ?_, ?_, ?_⟩) fun _ _ h => h⟩) fun _ _ h => h⟩
  · rw [List.range_succ, List.filter_append, ha, List.filter_cons, ← hv, hb]
    simp
  · rw [ha, List.length_map]
    exact Nat.lt_of_le_of_lt (List.length_filter_le _ _) (by rw [List.length_range]; omega)
  · rw [List.range_succ, List.filter_append, ha, List.filter_cons, ← hv, hb, hy]
    simp
  · exact ((fx.trans f2 (by omega)).trans f3 (by omega)).set (Nat.le_refl _)
  · rw [List.length_set]
    omega
end
/-- rows: references to pairs of ints -/
def PR (ih : IH) : List IV → List (Int × Int) → Prop
  | [], [] => True
  | .ref t :: xs, r :: rs => ih[t]? = some (.tup [.int r.1, .int r.2]) ∧ PR ih xs rs
  | _, _ => False
theorem PR.len {ih : IH} : ∀ {xs : List IV} {rs : List (Int × Int)}, PR ih xs rs → xs.length = rs.length
  | [], [], _ => rfl
  | .ref t :: xs, r :: rs, h => by
    rw [List.length_cons, List.length_cons, PR.len h.2]
theorem PR.mono {a b : IH} (f : ∀ (t : Nat) (i j : Int), a[t]? = some (.tup [.int i, .int j]) → b[t]? = some (.tup [.int i, .int j])) : ∀ {xs : List IV} {rs : List (Int × Int)}, PR a xs rs → PR b xs rs
  | [], [], _ => trivial
  | .ref t :: xs, r :: rs, h => ⟨f _ _ _ h.1, PR.mono f h.2⟩
theorem PR.fx {a b : IH} {xs : List IV} {rs : List (Int × Int)} (h : PR a xs rs) (f : Fx a b) : PR b xs rs := h.mono fun t i j e => by rw [f t (lt_of_get e)]; exact e
theorem PR.fr {a b : IH} {p : Nat} {o : List IV} {xs : List IV} {rs : List (Int × Int)} (h : PR a xs rs) (f : Fr p a b) (hp : a[p]? = some (.lst o)) : PR b xs rs := h.mono fun t i j e => by
  by_cases ht : t = p
  · subst ht
    rw [hp] at e
    cases e
  · rw [f t (lt_of_get e) ht]
    exact e
theorem PR.get {ih : IH} : ∀ {xs : List IV} {rs : List (Int × Int)} {i : Nat} {x : IV}, PR ih xs rs → xs[i]? = some x → ∃ t r, x = .ref t ∧ rs[i]? = some r ∧ ih[t]? = some (.tup [.int r.1, .int r.2])
  | .ref t :: xs, r :: rs, 0, x, h, e => ⟨t, r, (Option.some.inj e).symm, rfl, h.1⟩
  | .ref t :: xs, r :: rs, i + 1, x, h, e => PR.get (i := i) h.2 e
theorem PR.take {ih : IH} : ∀ {xs : List IV} {rs : List (Int × Int)} (n : Nat), PR ih xs rs → PR ih (xs.take n) (rs.take n)
  | _, _, 0, _ => trivial
  | [], [], n + 1, _ => trivial
  | .ref t :: xs, r :: rs, n + 1, h => ⟨h.1, PR.take n h.2⟩
theorem PR.app {ih : IH} {t : Nat} {r : Int × Int} (ht : ih[t]? = some (.tup [.int r.1, .int r.2])) : ∀ {xs : List IV} {rs : List (Int × Int)}, PR ih xs rs → PR ih (xs ++ [.ref t]) (rs ++ [r])
  | [], [], _ => ⟨ht, trivial⟩
  | .ref _ :: xs, _ :: rs, h => ⟨h.1, PR.app ht h.2⟩
theorem PR.append {ih : IH} : ∀ {xs ys : List IV} {rs ss : List (Int × Int)}, PR ih xs rs → PR ih ys ss → PR ih (xs ++ ys) (rs ++ ss)
  | [], _, [], _, _, k => k
  | .ref _ :: xs, _, _ :: rs, _, h, k => ⟨h.1, PR.append h.2 k⟩
theorem g_pairR {i j n : Nat} {v w : IV} {env : Env} {ih : IH} (h : ih[n]? = some (.tup [v, w])) : g_tup 2 (g_cons (g_nm i) (g_cons (g_nm j) g_nil)) (.ref n) env ih = some ((env.set i (some v)).set j (some w)) := by
  unfold g_tup
  dsimp only
  rw [h]
  rfl
/-- [me for a, b in rows], the element leaves the heap -/
theorem lc_rows {Q : PQ IV} {E : EQ} {env : Env} {ih : IH} {vs : List Nat} {i j n : Nat} {me : Env → IH → Res IV} {o : MO} {rs : List (Int × Int)} (F : Int × Int → IV) (ho : ih[n]? = some o) (hl : o.isL = true) (pr : PR ih o.xs rs) (hz : rs.length < 100000)
    (he : ∀ r ∈ rs, ∀ ih', Fx ih ih' → wp (me (((wipeI env vs).set i (some (.int r.1))).set j (some (.int r.2))) ih') (fun v ih'' => v = F r ∧ ih'' = ih') E0)
    (q : Q (.ref ih.length) (ih ++ [.lst (rs.map F)])) : k_lc vs (g_tup 2 (g_cons (g_nm i) (g_cons (g_nm j) g_nil))) n_yes me env Q E (.lst n) ih := by
  have hs : (Src.lst n).size ih = o.xs.length := by
    unfold Src.size
    dsimp only
    rw [ho]
  refine lc_gen o.xs.length (fun k acc ih' => acc = (rs.take k).map F ∧ ih' = ih ++ [.lst acc]) (by rw [hs]; exact Nat.le_refl _) ⟨by simp, rfl⟩ (fun k acc ih' hk ⟨ha, ei⟩ hd => ?_) (fun acc ih' ⟨_, ei⟩ _ => ?_) fun acc ih' ⟨ha, ei⟩ hd => ?_
  · subst ei
    have hx : o.xs[k]? = some o.xs[k] := List.getElem?_eq_getElem hk
    obtain ⟨t, r, e1, e2, e3⟩ := pr.get hx
    have ho' : (ih ++ [MO.lst acc])[n]? = some o := by rw [g_old (lt_of_get ho)]; exact ho
    have e3' : (ih ++ [MO.lst acc])[t]? = some (.tup [.int r.1, .int r.2]) := by rw [g_old (lt_of_get e3)]; exact e3
    have hr : r ∈ rs := List.mem_of_getElem? e2
    have hkr : k < rs.length := (List.getElem?_eq_some_iff.mp e2).1
    refine ⟨.ref t, _, _, by rw [turn_lst ho' hl hx, e1], g_pairR e3', ⟨(fun h => nomatch h), fun _ => wp.imp (he r hr _ Fx.app) (fun v ih2 hvi => ?_) fun _ _ h => h⟩⟩
    obtain ⟨hv, hi⟩ := hvi
    subst hi hv
    refine ⟨hd, ?_, ?_, ?_⟩
    · rw [ha, List.length_map, List.length_take]
      omega
    · rw [List.take_add_one, e2, ha, List.map_append]
      rfl
    · rw [set_append_last]
  · subst ei
    exact stop_lst (by rw [g_old (lt_of_get ho)]; exact ho) hl
  · rw [pr.len, List.take_length] at ha
    rw [ei, ha]
    exact q
/-- sorted of two rows -/
theorem wp_sortP2 {Q : PQ IV} {E : EQ} {ih : IH} {n s t : Nat} {a b x y : Int} (h : ih[n]? = some (.lst [.ref s, .ref t])) (hs : ih[s]? = some (.tup [.int a, .int b])) (ht : ih[t]? = some (.tup [.int x, .int y]))
    (q1 : (x < a ∨ (x = a ∧ y < b)) → Q (.ref ih.length) (ih ++ [.lst [.ref t, .ref s]])) (q2 : ¬ (x < a ∨ (x = a ∧ y < b)) → Q (.ref ih.length) (ih ++ [.lst [.ref s, .ref t]])) : wp (f_sortP [.ref n] ih) Q E := by
  have k1 : kI ih (.ref s) = (a, b) := by
    unfold kI
    dsimp only
    rw [hs]
  have k2 : kI ih (.ref t) = (x, y) := by
    unfold kI
    dsimp only
    rw [ht]
  have p1 : isPr ih (.ref s) = true := by
    unfold isPr
    dsimp only
    rw [hs]
  have p2 : isPr ih (.ref t) = true := by
    unfold isPr
    dsimp only
    rw [ht]
  have e : f_sortP [.ref n] ih = .ok (.ref ih.length) (ih ++ [.lst (isB (ltI ih) [] [.ref s, .ref t])]) := by
    unfold f_sortP
    dsimp only
    rw [h]
    dsimp only
    rw [if_pos ⟨rfl, by rw [xs_lst]; simp [p1, p2]⟩]
    rfl
  refine wp.of e ?_
  have e2 : isB (ltI ih) [] [.ref s, .ref t] = if SrtO.lexB (x, y) (a, b) = true then [.ref t, .ref s] else [.ref s, .ref t] := by
    show insB (ltI ih) (.ref t) [.ref s] = _
    unfold insB
    show (if SrtO.lexB (kI ih (.ref t)) (kI ih (.ref s)) = true then _ else _) = _
    rw [k1, k2]
    rfl
  rw [e2]
  by_cases hh : SrtO.lexB (x, y) (a, b) = true
  · rw [if_pos hh]
    exact q1 (by simpa using SrtO.lexB_iff.mp hh)
  · rw [if_neg hh]
    refine q2 fun hc => hh (SrtO.lexB_iff.mpr (by simpa using hc))
theorem wp_max1 {Q : PQ IV} {E : EQ} {ih : IH} {n : Nat} (ns : List Int) (h : ih[n]? = some (.lst (ns.map IV.int))) (hn : 0 < ns.length) (q : ∀ m, m ∈ ns → (∀ y ∈ ns, y ≤ m) → Q (.int m) ih) : wp (f_max1 [.ref n] ih) Q E := by
  have e : f_max1 [.ref n] ih = .ok (.int (maxI ns)) ih := by
    unfold f_max1 f_ints
    dsimp only
    rw [h]
    dsimp only
    rw [if_pos (isL_lst _), xs_lst, ints?_map]
    dsimp only
    rw [if_pos hn]
  exact wp.of e (q _ (maxI_spec hn).1 (maxI_spec hn).2)
theorem wp_min1 {Q : PQ IV} {E : EQ} {ih : IH} {n : Nat} (ns : List Int) (h : ih[n]? = some (.lst (ns.map IV.int))) (hn : 0 < ns.length) (q : ∀ m, m ∈ ns → (∀ y ∈ ns, m ≤ y) → Q (.int m) ih) : wp (f_min1 [.ref n] ih) Q E := by
  have e : f_min1 [.ref n] ih = .ok (.int (minI ns)) ih := by
    unfold f_min1 f_ints
    dsimp only
    rw [h]
    dsimp only
    rw [if_pos (isL_lst _), xs_lst, ints?_map]
    dsimp only
    rw [if_pos hn]
  exact wp.of e (q _ (minI_spec hn).1 (minI_spec hn).2)
/-! ### an int or None -/
def ofO : Option Int → IV
  | some i => .int i
  | none => .non
def oD : Option Int → PyData
  | some i => .int i
  | none => .none
theorem Is.ofO {ih : IH} : ∀ x : Option Int, Is ih (ofO x) (oD x)
  | some i => .int i
  | none => .non
theorem shaped_oD : ∀ x : Option Int, SeqAt.shaped (oD x) = true
  | some i => shaped_int i
  | none => by simp [oD, SeqAt.shaped, PyData.canLay0, PyData.depth]
theorem Is.fx {a b : IH} {d : PyData} {v : IV} (h : Is a v d) (f : Fx a b) : Is b v d := Is.ext f.ext d v h
theorem cutI_take {xs : List IV} {k : Nat} (h : k ≤ xs.length) : cutI xs none (some (k : Int)) = xs.take k := by
  unfold cutI
  rw [HT.sIx_none]
  have e : HT.sIx xs.length xs.length (some (k : Int)) = k := by
    have h2 := HT.clip_eq (k : Int) xs.length xs.length
    rw [if_neg (by omega)] at h2
    omega
  rw [e, List.drop_zero, Nat.sub_zero]
def prD (r : Int × Int) : PyData := .tuple [.int r.1, .int r.2]
theorem canLay_prs : ∀ rs : List (Int × Int), PyData.canLayAll0 (rs.map prD) = true
  | [] => by simp [PyData.canLayAll0]
  | r :: rs => by simp [prD, PyData.canLayAll0, PyData.canLay0, canLay_prs rs]
theorem depth_prs : ∀ rs : List (Int × Int), PyData.depthAll (rs.map prD) ≤ 3
  | [] => by simp [PyData.depthAll]
  | r :: rs => by
    have := depth_prs rs
    simp only [List.map_cons, PyData.depthAll, prD, PyData.depth]
    omega
theorem PR.is {ih : IH} : ∀ {xs : List IV} {rs : List (Int × Int)}, PR ih xs rs → IsAll ih xs (rs.map prD)
  | [], [], _ => .nil
  | .ref t :: xs, r :: rs, h => .cons (.tup h.1 rfl (.cons (.int r.1) (.cons (.int r.2) .nil))) (PR.is h.2)
end L3
/-! K56: never_sampled, and the counts gone through. -/
namespace L3
open PySem PySem.Spec PyProof.Rows L2
local macro_rules | `(tactic| walk_at "get") => `(tactic| simp (disch := first | assumption | omega | (simp only [List.length_append, List.length_set, List.length_cons, List.length_nil, List.length_map] <;> omega) | fail) only [g_new, g_nw, g_old, g_set, g_sne, List.length_append, List.length_set, List.length_cons, List.length_nil, List.length_map, List.map_map, Function.comp_def, xs_lst, xs_tup, isL_lst, isL_tup, ↓reduceIte, *])
local macro_rules | `(tactic| walk_at "fr") => `(tactic| first | (intro _ _ _; simp (disch := first | assumption | omega | (simp only [List.length_append, List.length_set, List.length_cons, List.length_nil, List.length_map] <;> omega) | fail) only [g_new, g_nw, g_old, g_set, g_sne, List.length_append, List.length_set, List.length_cons, List.length_nil, List.length_map, List.map_map, Function.comp_def, xs_lst, xs_tup, isL_lst, isL_tup, ↓reduceIte, *]) | (intro _ _; simp (disch := first | assumption | omega | (simp only [List.length_append, List.length_set, List.length_cons, List.length_nil, List.length_map] <;> omega) | fail) only [g_new, g_nw, g_old, g_set, g_sne, List.length_append, List.length_set, List.length_cons, List.length_nil, List.length_map, List.map_map, Function.comp_def, xs_lst, xs_tup, isL_lst, isL_tup, ↓reduceIte, *]))
local macro_rules | `(tactic| walk_at "run") => `(tactic| simp -implicitDefEqProofs (disch := first | assumption | omega | (simp only [List.length_append, List.length_set, List.length_cons, List.length_nil, List.length_map] <;> omega) | fail) only [wp_ok, wp_exc, wp_stuck, ws_ok, ws_exc, ws_stuck, wp_op, kk_op, kk_un, wp_un, wp_cons, kk_cons, kk_cons2, wp_nil, wp_c, wp_app, wp_if, kk_if1, kk_if0, wp_and, kk_and1, kk_and0, wp_or, kk_or1, kk_or0, wp_not, kk_not, wp_tb, kk_tb, wp_andV, kk_andV1, kk_andV0, wp_orV, kk_orV1, kk_orV0, wp_notV, kk_notV, wp_noneS, wp_some, kk_some, wp_sl, kk_sl, kk_sl2, kk_sl3, wp_mL, kk_mL, kk_mL2, wp_mL0, kk_mL0, wp_chain, kk_ch, kk_ch2, kk_ch31, kk_ch30, ws_set, kks_nm, kks_g, kks_tup, kks_lst, ws_expr, kks_expr, ws_ret, kks_ret, ws_retN, ws_pass, ws_brk, ws_cont, ws_raise, ws_if, kks_if1, kks_if0, ws_seq, kks_next, kks_retS, kks_brk, kks_cont, kk_augE, ws_aug, kks_aug, kks_aug2, ws_par, kks_par, ws_setL, kks_sl, kks_sl2, kks_sl3, wp_def, kkd_ret, kkd_next, kkdE, kkE, ws_for, wp_lc, wp_r1, kk_r1, wp_r2, kk_r2, wp_il, wp_it, wp_ie, wp_iz, kk_il, kk_il2, kk_it, kk_it2, kk_ie, kk_ie2, kk_iz, kk_iz2, lAt_k, k_lAtL, k_lAtO, k_lAtT, wp_int, wp_add, wp_addI, wp_sub, wp_neg, wp_lt, wp_le, wp_gt, wp_ge, wp_max2, wp_min2, wp_abs, wp_mulI, wp_mul, wp_fdiv, wp_mod, wp_shl, wp_shr, wp_pow, wp_isN, wp_notN, wp_eqI, wp_neI, wp_ix, kk_ix, kk_ix2, wp_len, kk_lenL, kk_lenT, kk_lenO, kk_lenP, wp_appd, kk_app1, isL_k, kk_isL, startI_cons, startI_nil, rep_succ, rep_zero, List.getElem?_cons_zero, List.getElem?_cons_succ, List.set_cons_zero, List.set_cons_succ, f_call, m_var, List.append_nil, List.nil_append, List.cons_append, List.length_cons, List.length_nil, if_true, if_false, g_tup, g_lst, g_cons, g_nil, g_nm, Option.bind_some, kks_g, atI_0, atI_1, atI_2, atI_3, atI_4, atI_5, atI_6, atI_7, atI_8, atI_9, atI_10, atI_11, atI_12, atI_last, cutI_1, ixN_30, ixN_31, ixN_32, Int.toNat_zero, Int.reduceToNat, Int.reduceNeg, xs_lst, xs_tup, xs_ro, xs_rot, isL_lst, isL_tup, isL_ro, isL_rot, isT_tup, isT_rot, Bool.false_eq_true, Bool.true_eq_false, Bool.not_true, Bool.not_false, decide_true, decide_false, Int.reduceLT, Int.reduceLE, Nat.reduceLT, Nat.reduceLeDiff, Nat.reduceAdd, Nat.reduceEqDiff, Bool.not_eq_true, true_and, and_true, and_self, eq_self, g_new, g_nw, g_old, g_set, g_sne, List.length_set, List.length_append, wp_r3, kk_r3, Int.cast_ofNat_Int, Int.reduceEq, Int.natCast_zero, Int.natCast_one, ws_whileA, wp_isiII, wp_isiIB, wp_isiR, tyO_l, tyO_t, kk_isi, kk_isi2, kit_ll, kit_tt, kit_lt, kit_tl, wp_isiN, wp_isiBl, wp_isiS, tyO_d, kit2_NoneType_int, kit2_NoneType_bool, kit2_NoneType_list, kit2_NoneType_tuple, kit2_NoneType_str, kit2_bool_int, kit2_bool_bool, kit2_bool_list, kit2_bool_tuple, kit2_bool_str, kit2_str_int, kit2_str_bool, kit2_str_list, kit2_str_tuple, kit2_str_str, kit2_dict_int, kit2_dict_bool, kit2_dict_list, kit2_dict_tuple, kit2_dict_str, kit2_list_int, kit2_list_bool, kit2_list_str, kit2_tuple_int, kit2_tuple_bool, kit2_tuple_str, kit2_int_list, kit2_int_tuple, kit2_int_str, kf_next, kf_cont, kf_brk, kf_ret, wipeI, ↓reduceIte, *])
theorem gcd_step {a b : Int} (a0 : 0 ≤ a) (b0 : 0 ≤ b) : Int.gcd b (a % b) = Int.gcd a b := by
  obtain ⟨A, rfl⟩ := Int.eq_ofNat_of_zero_le a0
  obtain ⟨C, rfl⟩ := Int.eq_ofNat_of_zero_le b0
  rw [← Int.natCast_emod]
  show Nat.gcd C (A % C) = Nat.gcd A C
  rw [Nat.gcd_comm C, ← Nat.gcd_rec, Nat.gcd_comm]
theorem lw_cd (c : Cs) {fu : Nat} (hf : 1001 < fu) {a b : Int} {ih : IH} {S : SQ} {F : ES} (a0 : 0 ≤ a) (b0 : 0 ≤ b) (hab : a * b < 2 ^ 1000)
    (fin : ∀ x : Int, x = (Int.gcd a b : Nat) → S (.next [some (.int x), some (.int 0)]) ih) :
    ws (whileGo (wt_common_divisor_1 c) (wb_common_divisor_1 c) fu [some (.int a), some (.int b)] ih) S F := by
  obtain ⟨g, eg⟩ : ∃ g, Int.gcd a b = g := ⟨_, rfl⟩
  rw [eg] at fin
  refine while_ind (fun _ _ => True) (fun env ih' k => ih' = ih ∧ ∃ a b : Int, env = [some (.int a), some (.int b)] ∧ 0 ≤ a ∧ 0 ≤ b ∧ Int.gcd a b = g ∧ (b = 0 ∨ (b ≤ a ∧ a * b < 2 ^ k) ∨ (1 ≤ k ∧ a * b < 2 ^ (k - 1)))) (fun k env ih' _ hP => ?_) fu 1001 _ ih trivial ⟨rfl, a, b, rfl, a0, b0, eg, .inr (.inr ⟨by decide, hab⟩)⟩ hf
  clear a0 b0 hab eg
  obtain ⟨ei, a, b, ee, a0, b0, eg, hk⟩ := hP
  subst ee ei
  unfold wt_common_divisor_1
  by_cases hb : b = 0
  · subst hb
    have d1 : decide ((0 : Int) = 0) = true := rfl
    have kz := fin a (by rw [← eg, Int.gcd_zero_right, Int.natAbs_of_nonneg a0])
    clear fin hk eg
    walk_at "run"
    all_goals exact kz
  · have d1 : decide (b = 0) = false := decide_eq_false hb
    have hb1 : 0 < b := by omega
    have m0 := Int.emod_nonneg a hb
    have m1 := Int.emod_lt_of_pos a hb1
    have md := Int.emod_def a b
    have hgcd : Int.gcd b (a % b) = g := (gcd_step a0 b0).trans eg
    have nxt : ∃ j, j < k ∧ (ih' = ih' ∧ ∃ x y : Int, [some (IV.int b), some (.int (a % b))] = [some (.int x), some (.int y)] ∧ 0 ≤ x ∧ 0 ≤ y ∧ Int.gcd x y = g ∧ (y = 0 ∨ (y ≤ x ∧ x * y < 2 ^ j) ∨ (1 ≤ j ∧ x * y < 2 ^ (j - 1)))) := by
      have big : b ≤ a → a * b < 2 ^ k → ∃ j, j < k ∧ (a % b ≤ b ∧ b * (a % b) < 2 ^ j) := by
        intro h1 h2
        have ab1 : 1 ≤ a * b := by
          have := Int.mul_le_mul (show 1 ≤ a by omega) (show 1 ≤ b by omega) (by decide) a0
          omega
        have hk1 : ∃ j, k = j + 1 := by
          cases k with
          | zero => have : (2 : Int) ^ 0 = 1 := rfl; omega
          | succ j => exact ⟨j, rfl⟩
        obtain ⟨j, rfl⟩ := hk1
        have q1 : 1 ≤ a / b := (Int.le_ediv_iff_mul_le hb1).mpr (by omega)
        have q2 : b * 1 ≤ b * (a / b) := Int.mul_le_mul_of_nonneg_left q1 b0
        have e2 : 2 * (a % b) ≤ a := by omega
        have e3 := Int.mul_le_mul_of_nonneg_left e2 b0
        have e4 : b * (2 * (a % b)) = 2 * (b * (a % b)) := Int.mul_left_comm _ _ _
        have e5 : b * a = a * b := Int.mul_comm _ _
        have e6 : (2 : Int) ^ (j + 1) = 2 ^ j * 2 := Int.pow_succ _ _
        exact ⟨j, by omega, by omega, by omega⟩
      rcases hk with h | ⟨h1, h2⟩ | ⟨h1, h2⟩
      · exact absurd h hb
      · obtain ⟨j, j1, j2, j3⟩ := big h1 h2
        exact ⟨j, j1, rfl, _, _, rfl, b0, m0, hgcd, .inr (.inl ⟨j2, j3⟩)⟩
      · obtain ⟨i, rfl⟩ : ∃ i, k = i + 1 := ⟨k - 1, by omega⟩
        rw [Nat.add_sub_cancel] at h2
        by_cases h3 : b ≤ a
        · have e6 : (2 : Int) ^ (i + 1) = 2 ^ i * 2 := Int.pow_succ _ _
          have p0 : (0 : Int) < 2 ^ i := Int.pow_pos (by decide)
          obtain ⟨j, j1, j2, j3⟩ := big h3 (by omega)
          exact ⟨j, j1, rfl, _, _, rfl, b0, m0, hgcd, .inr (.inl ⟨j2, j3⟩)⟩
        · have e7 : a % b = a := Int.emod_eq_of_lt a0 (by omega)
          exact ⟨i, by omega, rfl, _, _, rfl, b0, m0, hgcd, .inr (.inl ⟨by omega, by rw [e7, Int.mul_comm]; exact h2⟩)⟩
    clear fin hk m0 m1 md hgcd
    have hmod : 0 < b := hb1
    walk_at "run"
    unfold wb_common_divisor_1
    walk_at "run"
    exact Inv.mk nxt
theorem w_cd (c : Cs) {a b : Int} {ih : IH} {Q : PQ IV} {E : EQ} (a0 : 0 ≤ a) (b0 : 0 ≤ b) (hab : a * b < 2 ^ 1000) (k : ∀ x : Int, x = (Int.gcd a b : Nat) → Q (.int x) ih) : wp (m_common_divisor c [.int a, .int b] ih) Q E := by
  unfold m_common_divisor b_common_divisor
  walk_at "run"
  intro fu hfu
  refine lw_cd c (by omega) a0 b0 hab fun x hx => ?_
  have kz := k x hx
  clear k hx
  walk_at "run"
  all_goals exact kz
theorem toZ_app (l m : List Nat) : toZ (l ++ m) = toZ l ++ toZ m := by unfold toZ; rw [List.map_append]
theorem w_nloop (c : Cs) {t u : Nat} {m s G q : Int} {n : Nat} {ih : IH} {b1 : Option IV} {b6 b7 b8 : Option IV} {S : SQ} {F : ES} (gt : ih[t]? = some (.tup [.int m, .int s])) (gu : ih[u]? = some (.lst [])) (hn : n ≤ 40) (mB : B 80 m) (q0 : 0 < q) (qB : B 500 q) (G0 : 0 < G) (GB : B 1000 G)
    (fin : ∀ b6 b7 b8 ih', ih'[u]? = some (.lst ((toZ (nsL m G q n)).map IV.int)) → Fr u ih ih' → ih'.length = ih.length → S (.next [some (.ref t), b1, some (.int q), some (.int (n : Int)), some (.int G), some (.ref u), b6, b7, b8]) ih') :
    ks_for (g_nm 6) (lb_never_sampled_1 c) [some (.ref t), b1, some (.int q), some (.int (n : Int)), some (.int G), some (.ref u), b6, b7, b8] S F (.rng 0 1 n) ih := by
  have ul := lt_of_get gu
  have tu : t ≠ u := fun h => by rw [h, gu] at gt; cases gt
  have tl := lt_of_get gt
  refine for_rng0 (fun i env ih' => (∃ b6 b7 b8, env = [some (.ref t), b1, some (.int q), some (.int (n : Int)), some (.int G), some (.ref u), b6, b7, b8]) ∧ ih'[u]? = some (.lst ((toZ (nsL m G q i)).map IV.int)) ∧ Fr u ih ih' ∧ ih'.length = ih.length) ⟨⟨_, _, _, rfl⟩, gu, Fr.refl, rfl⟩ (fun i env ih' hi hP => ?_) fun env ih' hP => ?_
  · obtain ⟨⟨c6, c7, c8, ee⟩, gu', f', l'⟩ := hP
    subst ee
    have gt' : ih'[t]? = some (.tup [.int m, .int s]) := by rw [f' t tl tu]; exact gt
    have iB : B 10 (i : Int) := B.lt (by omega) (by omega)
    have iB1 : B 11 ((i : Int) + 1) := B.add iB (lit 10)
    have p1 : B 510 ((i : Int) * q) := B.mul iB qB
    have p2 : B 511 (((i : Int) + 1) * q) := B.mul iB1 qB
    have p1' : B 511 ((i : Int) * q - 1) := B.sub p1 (lit 510)
    have p2' : B 512 (((i : Int) + 1) * q - 1) := B.sub p2 (lit 511)
    have c1 : cMul (i : Int) q = true := B.cmul iB qB (by decide)
    have c2 : cMul ((i : Int) + 1) q = true := B.cmul iB1 qB (by decide)
    have c3 : cMul ((i : Int) * q - 1) m = true := B.cmul p1' mB (by decide)
    have c4 : cMul (((i : Int) + 1) * q - 1) m = true := B.cmul p2' mB (by decide)
    have c5 : ∀ x, cDiv x G = true := fun x => cDiv_of G0 GB (by decide) (by decide)
    have ll : ((toZ (nsL m G q i)).map IV.int).length < 100000 := by
      unfold toZ nsL
      rw [List.length_map, List.length_map]
      exact Nat.lt_of_le_of_lt (List.length_filter_le _ _) (by rw [List.length_range]; omega)
    have es : nsL m G q (i + 1) = nsL m G q i ++ if nsT m G q i = true then [i] else [] := by
      unfold nsL
      rw [List.range_succ, List.filter_append]
      cases h : nsT m G q i <;> simp [h]
    cases h : nsT m G q i with
    | true =>
      have d1 : decide ((((i : Int) + 1) * q - 1) * m / G = ((i : Int) * q - 1) * m / G) = true := h
      rw [h, if_pos rfl] at es
      have gn : (ih'.set u (.lst ((toZ (nsL m G q i)).map IV.int ++ [.int (i : Int)])))[u]? = some (.lst ((toZ (nsL m G q (i + 1))).map IV.int)) := by
        rw [g_set (by omega), es, toZ_app, List.map_append]
        rfl
      have fn := f'.setp (o := .lst ((toZ (nsL m G q i)).map IV.int ++ [.int (i : Int)]))
      have ln : (ih'.set u (.lst ((toZ (nsL m G q i)).map IV.int ++ [.int (i : Int)]))).length = ih.length := by rw [List.length_set]; exact l'
      have goal : ∀ a b, Inv (fun env ih' => (∃ b6 b7 b8, env = [some (.ref t), b1, some (.int q), some (.int (n : Int)), some (.int G), some (.ref u), b6, b7, b8]) ∧ ih'[u]? = some (.lst ((toZ (nsL m G q (i + 1))).map IV.int)) ∧ Fr u ih ih' ∧ ih'.length = ih.length) [some (.ref t), b1, some (.int q), some (.int (n : Int)), some (.int G), some (.ref u), some (.int (i : Int)), a, b] (ih'.set u (.lst ((toZ (nsL m G q i)).map IV.int ++ [.int (i : Int)]))) :=
        fun a b => Inv.mk ⟨⟨_, _, _, rfl⟩, gn, fn, ln⟩
      clear gn fn ln f' l' es fin h p1 p2 p1' p2' iB iB1 hi hn q0 G0 GB mB qB gt gu ul tl
      generalize toZ (nsL m G q i) = L at *
      unfold lb_never_sampled_1
      walk_at "run"
      all_goals exact goal _ _
    | false =>
      have d1 : decide ((((i : Int) + 1) * q - 1) * m / G = ((i : Int) * q - 1) * m / G) = false := h
      rw [h, if_neg (by decide), List.append_nil] at es
      rw [← es] at gu'
      have goal : ∀ a b, Inv (fun env ih' => (∃ b6 b7 b8, env = [some (.ref t), b1, some (.int q), some (.int (n : Int)), some (.int G), some (.ref u), b6, b7, b8]) ∧ ih'[u]? = some (.lst ((toZ (nsL m G q (i + 1))).map IV.int)) ∧ Fr u ih ih' ∧ ih'.length = ih.length) [some (.ref t), b1, some (.int q), some (.int (n : Int)), some (.int G), some (.ref u), some (.int (i : Int)), a, b] ih' :=
        fun a b => Inv.mk ⟨⟨_, _, _, rfl⟩, gu', f', l'⟩
      clear f' l' es fin h p1 p2 p1' p2' iB iB1 hi hn q0 G0 GB mB qB gt gu ul tl ll
      unfold lb_never_sampled_1
      walk_at "run"
      all_goals exact goal _ _
  · obtain ⟨⟨c6, c7, c8, ee⟩, gu', f', l'⟩ := hP
    subst ee
    exact fin _ _ _ ih' gu' f' l'
/-- what never_sampled returns -/
def nev (m s t q : Int) (n : Nat) : List Nat := nsL m (Int.gcd (t * 2 ^ s.toNat) (q * n * m) : Nat) q n
theorem w_never (c : Cs) {r : Nat} {m s t q : Int} {n : Nat} {ih : IH} {Q : PQ IV} {E : EQ} (gr : ih[r]? = some (.tup [.int m, .int s])) (m1 : 1 ≤ m) (m2 : m < 2 ^ 64) (s0 : 0 ≤ s) (s1 : s ≤ 64) (t1 : 1 ≤ t) (tB : B 300 t) (q1 : 1 ≤ q) (qB : B 300 q) (n1 : 1 ≤ n) (n2 : n ≤ 40)
    (k : ∀ u ih', ih.length ≤ u → u < ih'.length → Fx ih ih' → ih.length ≤ ih'.length → ih'[u]? = some (.lst ((toZ (nev m s t q n)).map IV.int)) → Q (.ref u) ih') : wp (m_never_sampled c [.ref r, .int t, .int q, .int (n : Int)] ih) Q E := by
  have a1 := q_rate c gr m1 m2 s0 s1
  have a2 := q_whole c t 1
  have a3 := q_whole c q 1
  have a4 := q_whole c n 1
  have d1 : decide (1 ≤ t) = true := decide_eq_true t1
  have d2 : decide (1 ≤ q) = true := decide_eq_true q1
  have d3 : decide ((1 : Int) ≤ n) = true := decide_eq_true (by omega)
  have d4 : decide ((40 : Int) < n) = false := decide_eq_false (by omega)
  have mB : B 64 m := B.lt (by omega) m2
  have nB : B 6 (n : Int) := B.lt (by omega) (by omega)
  have pB := pow_B s0 s1
  have p0 := pow_pos s
  have c1 : cShl t s = true := by
    obtain ⟨i, rfl⟩ := Int.eq_ofNat_of_zero_le s0
    exact cShl_of tB (by omega)
  have c2 : cMul q n = true := B.cmul qB nB (by decide)
  have qnB : B 306 (q * n) := B.mul qB nB
  have c3 : cMul (q * n) m = true := B.cmul qnB mB (by decide)
  have AB : B 365 (t * 2 ^ s.toNat) := B.mul tB pB
  have BB : B 370 (q * n * m) := B.mul qnB mB
  have A0 : 0 < t * 2 ^ s.toNat := Int.mul_pos (by omega) p0
  have B0 : 0 < q * n * m := Int.mul_pos (Int.mul_pos (by omega) (by omega)) (by omega)
  have AB2 : t * 2 ^ s.toNat * (q * n * m) < 2 ^ 1000 := by
    have h := (B.mul AB BB).mono (show 365 + 370 ≤ 1000 by decide)
    unfold B at h
    have h3 := Int.le_natAbs (a := t * 2 ^ s.toNat * (q * n * m))
    have h4 := Int.ofNat_lt.mpr h
    have h5 : ((2 ^ 1000 : Nat) : Int) = (2 : Int) ^ 1000 := by norm_cast
    rw [h5] at h4
    exact Int.lt_of_le_of_lt h3 h4
  unfold nev at k
  obtain ⟨A, eA⟩ : ∃ A : Int, t * 2 ^ s.toNat = A := ⟨_, rfl⟩
  obtain ⟨C, eC⟩ : ∃ C : Int, q * n * m = C := ⟨_, rfl⟩
  rw [eA] at AB A0 AB2 k
  rw [eC] at BB B0 AB2 k
  unfold m_never_sampled b_never_sampled
  clear pB p0 qnB
  walk_at "run"
  refine w_cd c (by omega) (by omega) AB2 fun G hG => ?_
  rw [← hG] at k
  have G0 : 0 < G := by
    rw [hG]
    have := Int.gcd_pos_of_ne_zero_left C (Int.ne_of_gt A0)
    omega
  have GB : B 1000 G := by
    refine (B.le (by omega) ?_ AB).mono (by decide)
    rw [hG]
    exact Int.le_of_dvd A0 (Int.gcd_dvd_left ..)
  clear a1 a2 a3 a4 c1 c2 c3 eA eC hG AB BB AB2 A0 B0
  walk_at "run"
  rw [a_lst (Nat.zero_le _), wp_ok]
  generalize hP : ks_set (g_nm 5) _ _ = P
  refine newN fun u ih1 u1 u2 l1 f1 g1 => ?_
  subst hP
  have gr1 : ih1[r]? = some (.tup [.int m, .int s]) := by rw [f1 r (lt_of_get gr)]; exact gr
  walk_at "run"
  refine ⟨smallI_mk (by omega) (by omega), ?_⟩
  refine w_nloop c gr1 g1 n2 (mB.mono (by decide)) (by omega) (qB.mono (by decide)) G0 GB fun b6 b7 b8 ih2 g2 f2 l2 => ?_
  have kz := k u ih2 u1 (by omega) (fun i hi => by rw [f2 i (by omega) (by omega), f1 i hi]) (by omega) g2
  clear k
  walk_at "run"
  all_goals exact kz
end L3
/-! K56b: the law's own search, draws. -/
namespace L3
open PySem PySem.Spec PyProof.Rows L2
local macro_rules | `(tactic| walk_at "get") => `(tactic| simp (disch := first | assumption | omega | (simp only [List.length_append, List.length_set, List.length_cons, List.length_nil, List.length_map] <;> omega) | fail) only [g_new, g_nw, g_old, g_set, g_sne, List.length_append, List.length_set, List.length_cons, List.length_nil, List.length_map, List.map_map, Function.comp_def, xs_lst, xs_tup, isL_lst, isL_tup, ↓reduceIte, *])
local macro_rules | `(tactic| walk_at "fr") => `(tactic| first | (intro _ _ _; simp (disch := first | assumption | omega | (simp only [List.length_append, List.length_set, List.length_cons, List.length_nil, List.length_map] <;> omega) | fail) only [g_new, g_nw, g_old, g_set, g_sne, List.length_append, List.length_set, List.length_cons, List.length_nil, List.length_map, List.map_map, Function.comp_def, xs_lst, xs_tup, isL_lst, isL_tup, ↓reduceIte, *]) | (intro _ _; simp (disch := first | assumption | omega | (simp only [List.length_append, List.length_set, List.length_cons, List.length_nil, List.length_map] <;> omega) | fail) only [g_new, g_nw, g_old, g_set, g_sne, List.length_append, List.length_set, List.length_cons, List.length_nil, List.length_map, List.map_map, Function.comp_def, xs_lst, xs_tup, isL_lst, isL_tup, ↓reduceIte, *]))
local macro_rules | `(tactic| walk_at "run") => `(tactic| simp -implicitDefEqProofs (disch := first | assumption | omega | (simp only [List.length_append, List.length_set, List.length_cons, List.length_nil, List.length_map] <;> omega) | fail) only [wp_ok, wp_exc, wp_stuck, ws_ok, ws_exc, ws_stuck, wp_op, kk_op, kk_un, wp_un, wp_cons, kk_cons, kk_cons2, wp_nil, wp_c, wp_app, wp_if, kk_if1, kk_if0, wp_and, kk_and1, kk_and0, wp_or, kk_or1, kk_or0, wp_not, kk_not, wp_tb, kk_tb, wp_andV, kk_andV1, kk_andV0, wp_orV, kk_orV1, kk_orV0, wp_notV, kk_notV, wp_noneS, wp_some, kk_some, wp_sl, kk_sl, kk_sl2, kk_sl3, wp_mL, kk_mL, kk_mL2, wp_mL0, kk_mL0, wp_chain, kk_ch, kk_ch2, kk_ch31, kk_ch30, ws_set, kks_nm, kks_g, kks_tup, kks_lst, ws_expr, kks_expr, ws_ret, kks_ret, ws_retN, ws_pass, ws_brk, ws_cont, ws_raise, ws_if, kks_if1, kks_if0, ws_seq, kks_next, kks_retS, kks_brk, kks_cont, kk_augE, ws_aug, kks_aug, kks_aug2, ws_par, kks_par, ws_setL, kks_sl, kks_sl2, kks_sl3, wp_def, kkd_ret, kkd_next, kkdE, kkE, ws_for, wp_lc, wp_r1, kk_r1, wp_r2, kk_r2, wp_il, wp_it, wp_ie, wp_iz, kk_il, kk_il2, kk_it, kk_it2, kk_ie, kk_ie2, kk_iz, kk_iz2, lAt_k, k_lAtL, k_lAtO, k_lAtT, wp_int, wp_add, wp_addI, wp_sub, wp_neg, wp_lt, wp_le, wp_gt, wp_ge, wp_max2, wp_min2, wp_abs, wp_mulI, wp_mul, wp_fdiv, wp_mod, wp_shl, wp_shr, wp_pow, wp_isN, wp_notN, wp_eqI, wp_neI, wp_ix, kk_ix, kk_ix2, wp_len, kk_lenL, kk_lenT, kk_lenO, kk_lenP, wp_appd, kk_app1, isL_k, kk_isL, startI_cons, startI_nil, rep_succ, rep_zero, List.getElem?_cons_zero, List.getElem?_cons_succ, List.set_cons_zero, List.set_cons_succ, f_call, m_var, List.append_nil, List.nil_append, List.cons_append, List.length_cons, List.length_nil, if_true, if_false, g_tup, g_lst, g_cons, g_nil, g_nm, Option.bind_some, kks_g, atI_0, atI_1, atI_2, atI_3, atI_4, atI_5, atI_6, atI_7, atI_8, atI_9, atI_10, atI_11, atI_12, atI_last, cutI_1, ixN_30, ixN_31, ixN_32, Int.toNat_zero, Int.reduceToNat, Int.reduceNeg, xs_lst, xs_tup, xs_ro, xs_rot, isL_lst, isL_tup, isL_ro, isL_rot, isT_tup, isT_rot, Bool.false_eq_true, Bool.true_eq_false, Bool.not_true, Bool.not_false, decide_true, decide_false, Int.reduceLT, Int.reduceLE, Nat.reduceLT, Nat.reduceLeDiff, Nat.reduceAdd, Nat.reduceEqDiff, Bool.not_eq_true, true_and, and_true, and_self, eq_self, g_new, g_nw, g_old, g_set, g_sne, List.length_set, List.length_append, wp_r3, kk_r3, Int.cast_ofNat_Int, Int.reduceEq, Int.natCast_zero, Int.natCast_one, ws_whileA, wp_isiII, wp_isiIB, wp_isiR, tyO_l, tyO_t, kk_isi, kk_isi2, kit_ll, kit_tt, kit_lt, kit_tl, wp_isiN, wp_isiBl, wp_isiS, tyO_d, kit2_NoneType_int, kit2_NoneType_bool, kit2_NoneType_list, kit2_NoneType_tuple, kit2_NoneType_str, kit2_bool_int, kit2_bool_bool, kit2_bool_list, kit2_bool_tuple, kit2_bool_str, kit2_str_int, kit2_str_bool, kit2_str_list, kit2_str_tuple, kit2_str_str, kit2_dict_int, kit2_dict_bool, kit2_dict_list, kit2_dict_tuple, kit2_dict_str, kit2_list_int, kit2_list_bool, kit2_list_str, kit2_tuple_int, kit2_tuple_bool, kit2_tuple_str, kit2_int_list, kit2_int_tuple, kit2_int_str, kf_next, kf_cont, kf_brk, kf_ret, wipeI, ↓reduceIte, *])
theorem ixN_nn {n j : Nat} (h : j < n) : ixN n (j : Int) = some j := by
  unfold ixN
  simp only [Int.natCast_nonneg, if_true, ge_iff_le]
  first
  | (rw [if_pos (by omega)]; rw [Int.toNat_natCast])
  | (simp; omega)
/-- [me for i, x in enumerate(xs) if test], nothing but the pairs allocated -/
theorem lc_enmT {Q : PQ IV} {E : EQ} {env : Env} {ih : IH} {vs : List Nat} {i j n : Nat} {mt : Env → IH → Res Bool} {me : Env → IH → Res IV} {xs : List IV} (T : Nat → Bool) (F : Nat → IV) (ho : ih[n]? = some (.lst xs)) (hz : xs.length < 100000)
    (ht : ∀ (k : Nat) x, xs[k]? = some x → ∀ ih', Fx ih ih' → wp (mt (((wipeI env vs).set i (some (.int (k : Int)))).set j (some x)) ih') (fun v ih'' => v = T k ∧ ih'' = ih') E0)
    (he : ∀ (k : Nat) x, xs[k]? = some x → T k = true → ∀ ih', Fx ih ih' → wp (me (((wipeI env vs).set i (some (.int (k : Int)))).set j (some x)) ih') (fun v ih'' => v = F k ∧ ih'' = ih') E0)
    (q : ∀ ih', Fx ih ih' → ih.length < ih'.length → ih'[ih.length]? = some (.lst (((List.range xs.length).filter T).map F)) → Q (.ref ih.length) ih') : k_lc vs (g_tup 2 (g_cons (g_nm i) (g_cons (g_nm j) g_nil))) mt me env Q E (.enm n) ih := by
  have hs : (Src.enm n).size ih = xs.length := by
    unfold Src.size
    dsimp only
    rw [ho]
    rfl
  refine lc_gen xs.length (fun k acc ih' => acc = ((List.range k).filter T).map F ∧ Fx ih ih' ∧ ih.length < ih'.length) (by rw [hs]; exact Nat.le_refl _) ⟨by simp, Fx.app, by simp⟩ (fun k acc ih' hk ⟨ha, fx, lx⟩ hd => ?_) (fun acc ih' ⟨_, fx, _⟩ _ => ?_) fun acc ih' ⟨ha, fx, lx⟩ hd => ?_
  · have hx : xs[k]? = some xs[k] := List.getElem?_eq_getElem hk
    have ho' : ih'[n]? = some (.lst xs) := by rw [fx n (lt_of_get ho)]; exact ho
    have f1 : Fx ih' (ih' ++ [.tup [.int (k : Int), xs[k]]]) := Fx.app
    refine ⟨.ref ih'.length, _, _, turn_enm ho' rfl (show (MO.lst xs).xs[k]? = some xs[k] from hx), g_pair, wp.imp (ht k _ hx _ (fx.trans f1 (by omega))) (fun v ih2 hv => ?_) fun _ _ h => h⟩
    obtain ⟨hv, hi⟩ := hv
    subst hi
    have hd2 : (ih' ++ [MO.tup [.int (k : Int), xs[k]]])[ih.length]? = some (.lst acc) := by rw [g_old lx]; exact hd
    refine ⟨fun hb => ⟨hd2, ?_, fx.trans f1 (by omega), by rw [List.length_append]; omega⟩, fun hb => wp.imp (he k _ hx (by rw [← hv]; exact hb) _ (fx.trans f1 (by omega))) (fun y ih3 hy => ?_) fun _ _ h => h⟩
    · rw [List.range_succ, List.filter_append, ha, List.filter_cons, ← hv, hb]
      simp
    · obtain ⟨hy, hi3⟩ := hy
      subst hi3
      refine ⟨hd2, ?_, ?_, (fx.trans f1 (by omega)).set (Nat.le_refl _), by rw [List.length_set, List.length_append]; omega⟩
      · rw [ha, List.length_map]
        exact Nat.lt_of_le_of_lt (List.length_filter_le _ _) (by rw [List.length_range]; omega)
      · rw [List.range_succ, List.filter_append, ha, List.filter_cons, ← hv, hb, hy]
        simp
  · exact stop_enm (o := .lst xs) (by rw [fx n (lt_of_get ho)]; exact ho) rfl
  · rw [ha] at hd
    exact q ih' fx lx hd
theorem lw_great (c : Cs) {fu p m : Nat} (hf : 10 < fu) {bd : Int} {ih : IH} {S : SQ} {F : ES} (s : Src0 p m ih) (hm : m + 6 ≤ 1000000) (hb : bd ≤ (10 ^ 8) ^ 6)
    (fin : ∀ x y ih', B 200 x → Src0 p (m + 6) ih' → Fr p ih ih' → ih'.length = ih.length → S (.next [some (.ref p), some (.int bd), some (.int x), some (.int y)]) ih') :
    ws (whileGo (wt_law_great_1 c) (wb_law_great_1 c) fu [some (.ref p), some (.int bd), some (.int 0), some (.int 1)] ih) S F := by
  refine while_ind (fun _ _ => True) (fun env ih' k => ∃ (j : Nat) (x : Int), env = [some (.ref p), some (.int bd), some (.int x), some (.int ((10 ^ 8) ^ j))] ∧ k + j = 6 ∧ 0 ≤ x ∧ x < (10 ^ 8) ^ j ∧ Src0 p (m + j) ih' ∧ Fr p ih ih' ∧ ih'.length = ih.length) (fun k env ih' _ hP => ?_) fu 6 _ ih trivial ⟨0, 0, rfl, rfl, by decide, by decide, s, Fr.refl, rfl⟩ (by omega)
  obtain ⟨j, x, ee, kj, x0, x1, s', f', l'⟩ := hP
  subst ee
  have c18 : cPow 10 8 = true := by decide
  have RB : B 161 (((10 : Int) ^ 8) ^ j) := by
    refine B.le (Int.le_of_lt (Int.pow_pos (by decide))) ?_ (lit 161 : B 161 ((10 ^ 8) ^ 6))
    exact_mod_cast Nat.pow_le_pow_right (by decide) (show j ≤ 6 by omega)
  have R0 : (0 : Int) < ((10 : Int) ^ 8) ^ j := Int.pow_pos (by decide)
  have xB : B 161 x := B.le x0 (Int.le_of_lt x1) RB
  have hj6 : (((10 : Int) ^ 8) ^ j < bd) → j < 6 := fun h => by
    rcases Nat.lt_or_ge j 6 with e | e
    · exact e
    · have e6 : j = 6 := by omega
      rw [e6] at h
      exact absurd h (Int.not_lt.mpr hb)
  have nx : ((10 : Int) ^ 8) ^ j * 10 ^ 8 = (10 ^ 8) ^ (j + 1) := (Int.pow_succ _ _).symm
  have m0 : (0 : Int) < 10 ^ 8 := by decide
  have mB : B 27 ((10 : Int) ^ 8) := lit 27
  obtain ⟨R, eR⟩ : ∃ R : Int, ((10 : Int) ^ 8) ^ j = R := ⟨_, rfl⟩
  rw [eR] at x1 RB R0 hj6 nx ⊢
  obtain ⟨T, eT⟩ : ∃ T : Int, (10 : Int) ^ 8 = T := ⟨_, rfl⟩
  unfold wt_law_great_1
  by_cases t1 : R < bd
  · have d1 := decide_eq_true t1
    have hj := hj6 t1
    have cm : cMul x T = true := by rw [← eT]; exact B.cmul xB mB (by decide)
    have cm2 : cMul R T = true := by rw [← eT]; exact B.cmul RB mB (by decide)
    clear hj6 fin t1
    walk_at "run"
    unfold wb_law_great_1
    walk_at "run"
    rw [eT] at m0 mB nx
    refine w_next c s' m0 (mB.mono (by decide)) (by omega) fun v ih1 v0 v1 s1 f1 l1 => ?_
    walk_at "run"
    refine Inv.mk ⟨k - 1, by omega, j + 1, x * T + v, rfl, by omega, ?_, ?_, s1, f'.trans f1 (by omega), by omega⟩
    · have := Int.mul_nonneg x0 (Int.le_of_lt m0)
      omega
    · rw [← nx]
      have h1 := Int.mul_le_mul_of_nonneg_right (show x ≤ R - 1 by omega) (Int.le_of_lt m0)
      rw [Int.sub_mul, Int.one_mul] at h1
      omega
  · have d1 := decide_eq_false t1
    have kz := fin x R ih' (xB.mono (by decide)) (s'.mono (by omega)) f' l'
    clear hj6 fin t1
    walk_at "run"
    all_goals exact kz
theorem w_great (c : Cs) {p m : Nat} {bd : Int} {ih : IH} {Q : PQ IV} {E : EQ} (h : Src0 p m ih) (hm : m + 6 ≤ 1000000) (b0 : 0 < bd) (hb : bd ≤ (10 ^ 8) ^ 6)
    (k : ∀ v ih', 0 ≤ v → v < bd → Src0 p (m + 6) ih' → Fr p ih ih' → ih.length ≤ ih'.length → Q (.int v) ih') : wp (m_law_great c [.ref p, .int bd] ih) Q E := by
  unfold m_law_great b_law_great
  walk_at "run"
  refine wp_tup (by simp) ?_
  have lp := h.lt
  have gx : (ih ++ [MO.tup [.int 0, .int 1]])[ih.length]? = some (.tup [.int 0, .int 1]) := g_new
  walk_at "run"
  intro fu hfu
  refine lw_great c (by omega) (h.fx Fx.app) hm hb fun x y ih1 xB s1 f1 l1 => ?_
  have kz := k (x % bd) ih1 (Int.emod_nonneg _ (by omega)) (Int.emod_lt_of_pos _ b0) s1 ((Fx.app (o := MO.tup [.int 0, .int 1])).fr.trans f1 (by simp)) (by rw [l1]; simp)
  clear k gx
  walk_at "run"
  all_goals exact kz
theorem w_one (c : Cs) {p m q : Nat} {xs : List Int} {ih : IH} {Q : PQ IV} {E : EQ} (h : Src0 p m ih) (hm : m + 1 ≤ 1000000) (gq : ih[q]? = some (.lst (xs.map IV.int))) (qp : q ≠ p) (x1 : 0 < xs.length) (x2 : xs.length ≤ 100)
    (k : ∀ v ih', v ∈ xs → Src0 p (m + 1) ih' → Fr p ih ih' → ih'.length = ih.length → Q (.int v) ih') : wp (m_law_one c [.ref p, .ref q] ih) Q E := by
  unfold m_law_one b_law_one
  walk_at "run"
  rw [List.length_map]
  refine w_next c h (by omega) ((B.lt (n := 10) (by omega) (by omega)).mono (by decide)) (by omega) fun v ih1 v0 v1 s1 f1 l1 => ?_
  have g1 : ih1[q]? = some (.lst (xs.map IV.int)) := by rw [f1 q (lt_of_get gq) qp]; exact gq
  have kk : ∀ x ∈ xs.map IV.int, Q x ih1 := fun x hx => by
    obtain ⟨y, hy, rfl⟩ := List.mem_map.mp hx
    exact k y ih1 hy s1 f1 l1
  clear f1 k
  walk_at "run"
  exact k_pick (by omega) (by rw [List.length_map]; omega) kk
/-- going through the counts -/
theorem w_dloop (c : Cs) {p : Nat} {m s t q n T : Nat} {ih : IH} {b6 b7 b8 b9 : Option IV} {S : SQ} {F : ES} (gp : ih[p]? = some (.lst ((stL m ((t * 2 ^ s : Nat) : Int) q n 0).map IV.bl))) (hm : m < 1000) (hs : s ≤ 64) (ht : 0 < t) (tB : t < 1000) (hq : 0 < q) (qB : q < 1000) (hn : 0 < n) (nB : n < 1000) (hT : T < 100000)
    (fin : ∀ b6 b7 ih', ih'[p]? = some (.lst ((stL m ((t * 2 ^ s : Nat) : Int) q n T).map IV.bl)) → Fr p ih ih' → ih'.length = ih.length → S (.next [some (.int (m : Int)), some (.int (s : Int)), some (.int (t : Int)), some (.int (q : Int)), some (.int (n : Int)), some (.ref p), b6, b7, b8, b9]) ih') :
    ks_for (g_nm 6) (lb_law_due_1 c) [some (.int (m : Int)), some (.int (s : Int)), some (.int (t : Int)), some (.int (q : Int)), some (.int (n : Int)), some (.ref p), b6, b7, b8, b9] S F (.rng 1 1 T) ih := by
  have pl := lt_of_get gp
  refine for_rng1' (fun i env ih' => (∃ b6 b7, env = [some (.int (m : Int)), some (.int (s : Int)), some (.int (t : Int)), some (.int (q : Int)), some (.int (n : Int)), some (.ref p), b6, b7, b8, b9]) ∧ ih'[p]? = some (.lst ((stL m ((t * 2 ^ s : Nat) : Int) q n i).map IV.bl)) ∧ Fr p ih ih' ∧ ih'.length = ih.length) ⟨⟨_, _, rfl⟩, gp, Fr.refl, rfl⟩ (fun i env ih' hi hP => ?_) fun env ih' hP => ?_
  · obtain ⟨⟨c6, c7, ee⟩, g', f', l'⟩ := hP
    subst ee
    obtain ⟨x, ex⟩ : ∃ x : Int, 1 + (i : Int) = x := ⟨_, rfl⟩
    have x0 : 0 ≤ x := by omega
    have mB : B 10 (m : Int) := B.lt (by omega) (by omega)
    have xB : B 17 x := B.lt x0 (by omega)
    have c1 : cMul x m = true := B.cmul xB mB (by decide)
    have c2 : cMul (x - 1) m = true := B.cmul (B.sub xB ((lit 17 : B 17 1))) mB (by decide)
    have c3 : ∀ y, cDiv y (t : Int) = true := fun y => cDiv_of (by omega) (B.lt (n := 10) (by omega) (by omega)) (by decide) (by decide)
    have c4 : ∀ y, cDiv y (q : Int) = true := fun y => cDiv_of (by omega) (B.lt (n := 10) (by omega) (by omega)) (by decide) (by decide)
    have n0 : (0 : Int) < n := by omega
    have s0 : (0 : Int) ≤ s := by omega
    have tn : ((s : Int)).toNat = s := Int.toNat_natCast s
    have dv : ∀ y : Int, y / 2 ^ ((s : Int)).toNat / t = y / ((t * 2 ^ s : Nat) : Int) := fun y => by
      rw [tn, Int.ediv_ediv_of_nonneg (Int.le_of_lt (Int.pow_pos (by decide))), Int.mul_comm]
      push_cast
      rfl
    have ex2 : ((i + 1 : Nat) : Int) = x := by omega
    have dj : decide ((x - 1) * m / 2 ^ ((s : Int)).toNat / t < x * m / 2 ^ ((s : Int)).toNat / t) = jmp m ((t * 2 ^ s : Nat) : Int) (i + 1) := by
      unfold jmp
      rw [dv, dv, ex2]
    have cl : x / (q : Int) % n = (((i + 1) / q % n : Nat) : Int) := by
      rw [← ex2]
      norm_cast
    have cln : (i + 1) / q % n < n := Nat.mod_lt _ hn
    rw [show (1 : Int) + (i : Int) = x from ex]
    unfold lb_law_due_1
    cases hj : jmp m ((t * 2 ^ s : Nat) : Int) (i + 1) with
    | true =>
      rw [hj] at dj
      have es := stL_yes (q := q) (n := n) hj
      have le : ((stL m ((t * 2 ^ s : Nat) : Int) q n i).map IV.bl).length = n := by
        unfold stL
        rw [List.length_map, List.length_map, List.length_range]
      obtain ⟨L, eL⟩ : ∃ L, (stL m ((t * 2 ^ s : Nat) : Int) q n i).map IV.bl = L := ⟨_, rfl⟩
      have gn : (ih'.set p (.lst (L.set ((i + 1) / q % n) (.bl false))))[p]? = some (.lst ((stL m ((t * 2 ^ s : Nat) : Int) q n (i + 1)).map IV.bl)) := by
        rw [g_set (by omega), es, List.map_set, eL]
      have fn := f'.setp (o := .lst (L.set ((i + 1) / q % n) (.bl false)))
      have ln : (ih'.set p (.lst (L.set ((i + 1) / q % n) (.bl false)))).length = ih.length := by rw [List.length_set]; exact l'
      rw [eL] at g' le
      have ix : ixN L.length (x / (q : Int) % n) = some ((i + 1) / q % n) := by rw [cl, le]; exact ixN_nn cln
      clear hj es f' l' fin dv cl le eL tn xB mB x0 ex2 ex
      walk_at "run"
      rw [k_setL_of ix]
      walk_at "run"
      exact Inv.mk ⟨⟨_, _, rfl⟩, gn, fn, ln⟩
    | false =>
      rw [hj] at dj
      have es := stL_no (q := q) (n := n) hj
      rw [← es] at g'
      clear hj es fin dv cl tn xB mB x0 ex2 ex
      have goal : ∀ a b, Inv (fun env ih' => (∃ b6 b7, env = [some (.int (m : Int)), some (.int (s : Int)), some (.int (t : Int)), some (.int (q : Int)), some (.int (n : Int)), some (.ref p), b6, b7, b8, b9]) ∧ ih'[p]? = some (.lst ((stL m ((t * 2 ^ s : Nat) : Int) q n (i + 1)).map IV.bl)) ∧ Fr p ih ih' ∧ ih'.length = ih.length) [some (.int (m : Int)), some (.int (s : Int)), some (.int (t : Int)), some (.int (q : Int)), some (.int (n : Int)), some (.ref p), a, b, b8, b9] ih' := fun a b => Inv.mk ⟨⟨_, _, rfl⟩, g', f', l'⟩
      clear g' f' l' gp
      walk_at "run"
      all_goals exact goal _ _
  · obtain ⟨⟨c6, c7, ee⟩, g', f', l'⟩ := hP
    subst ee
    exact fin _ _ ih' g' f' l'
theorem flat1 {α : Type} (x : α) (n : Nat) : (List.replicate n [x]).flatten = List.replicate n x := by
  induction n with
  | zero => rfl
  | succ n ih => rw [List.replicate_succ, List.flatten_cons, ih]; rfl
theorem wp_rep {Q : PQ IV} {E : EQ} {ih : IH} {n : Nat} {k : Int} {xs : List IV} (h : ih[n]? = some (.lst xs)) (h0 : 0 ≤ k) (h1 : k ≤ 100000) (h2 : xs.length * k.toNat ≤ 100000) (q : Q (.ref ih.length) (ih ++ [.lst (List.replicate k.toNat xs).flatten])) : wp (f_mulA (.ref n) (.int k) ih) Q E := by
  have e : f_mulA (.ref n) (.int k) ih = .ok (.ref ih.length) (ih ++ [.lst (List.replicate k.toNat xs).flatten]) := by
    unfold f_mulA
    dsimp only
    rw [h]
    dsimp only
    rw [if_pos ⟨h0, h1, h2⟩]
  exact wp.of e q
theorem w_due (c : Cs) {m s t q n : Nat} {ih : IH} {Q : PQ IV} {E : EQ} (m0 : 0 < m) (hm : m ≤ 12) (hs : s ≤ 2) (ht : 0 < t) (tB : t ≤ 8) (hq : 0 < q) (qB : q ≤ 9) (hn : 0 < n) (nB : n ≤ 40)
    (k : ∀ u ih', ih.length ≤ u → u < ih'.length → Fx ih ih' → ih.length ≤ ih'.length → ih'[u]? = some (.lst ((toZ (nev m s t q n)).map IV.int)) → Q (.ref u) ih') : wp (m_law_due c [.int m, .int s, .int t, .int q, .int n] ih) Q E := by
  have key : (List.range n).filter (dueB m ((t * 2 ^ s : Nat) : Int) q n (q * n * (t * 2 ^ s))) = nev m s t q n := by
    rw [due_eq m0 (Nat.mul_pos ht (Nat.pow_pos (by decide))) hq]
    unfold nev
    congr 2
  have tB2 : q * n * (t * 2 ^ s) ≤ 40000 := by
    have h1 : q * n ≤ 9 * 40 := Nat.mul_le_mul qB nB
    have h2 : t * 2 ^ s ≤ 8 * 4 := Nat.mul_le_mul tB (Nat.pow_le_pow_right (n := 2) (by decide) hs)
    have h3 := Nat.mul_le_mul h1 h2
    omega
  have c1 : cMul (q : Int) n = true := B.cmul (B.lt (n := 10) (by omega) (by omega)) (B.lt (n := 10) (by omega) (by omega)) (by decide)
  have c2 : cShl (t : Int) s = true := cShl_of (B.lt (n := 10) (by omega) (by omega)) (by omega)
  have e1 : (q : Int) * n * (t * 2 ^ ((s : Int)).toNat) = ((q * n * (t * 2 ^ s) : Nat) : Int) := by
    rw [Int.toNat_natCast]
    push_cast
    rfl
  have c3 : cMul ((q : Int) * n) (t * 2 ^ ((s : Int)).toNat) = true := by
    refine B.cmul (n := 20) (m := 20) (B.lt ?_ ?_) (B.lt ?_ ?_) (by decide)
    · exact Int.mul_nonneg (by omega) (by omega)
    · have h1 : q * n ≤ 9 * 40 := Nat.mul_le_mul qB nB
      have : ((q * n : Nat) : Int) ≤ 360 := by omega
      push_cast at this
      omega
    · exact Int.mul_nonneg (by omega) (Int.le_of_lt (Int.pow_pos (by decide)))
    · rw [Int.toNat_natCast]
      have h2 : t * 2 ^ s ≤ 8 * 4 := Nat.mul_le_mul tB (Nat.pow_le_pow_right (n := 2) (by decide) hs)
      have : ((t * 2 ^ s : Nat) : Int) ≤ 32 := by omega
      push_cast at this
      omega
  obtain ⟨T, eT⟩ : ∃ T : Nat, q * n * (t * 2 ^ s) = T := ⟨_, rfl⟩
  rw [eT] at tB2 e1 key
  unfold m_law_due b_law_due
  walk_at "run"
  rw [a_lst (by simp), wp_ok]
  generalize hP : k_op f_mulA _ _ _ _ = P
  refine newN fun a ih1 a1 a2 l1 f1 g1 => ?_
  subst hP
  walk_at "run"
  refine wp_rep g1 (by omega) (by omega) (by simp; omega) ?_
  generalize hP : ks_set _ _ _ = P
  refine newN fun p ih2 p1 p2 l2 f2 g2 => ?_
  subst hP
  rw [Int.toNat_natCast, flat1] at g2
  have gp : ih2[p]? = some (.lst ((stL m ((t * 2 ^ s : Nat) : Int) q n 0).map IV.bl)) := by rw [g2, stL_0, List.map_replicate]
  have F2 : Fx ih ih2 := f1.trans f2 (by omega)
  clear f1 f2 g1 g2
  walk_at "run"
  refine ⟨⟨smallI_mk (by omega) (by omega), smallI_mk (by omega) (by omega)⟩, ?_⟩
  rw [show ((T : Int) + 1 - 1).toNat = T by omega]
  clear e1
  refine w_dloop c gp (by omega) (by omega) ht (by omega) hq (by omega) hn (by omega) (by omega) fun b6 b7 ih3 g3 f3 l3 => ?_
  have lst : ((stL m ((t * 2 ^ s : Nat) : Int) q n T).map IV.bl).length = n := by
    unfold stL
    rw [List.length_map, List.length_map, List.length_range]
  have at_ : ∀ (i : Nat) x, ((stL m ((t * 2 ^ s : Nat) : Int) q n T).map IV.bl)[i]? = some x → x = .bl (dueB m ((t * 2 ^ s : Nat) : Int) q n T i) := fun i x h => by
    unfold stL at h
    rw [List.map_map, List.getElem?_map] at h
    by_cases hi : i < n
    · rw [List.getElem?_range hi] at h
      exact (Option.some.inj h).symm
    · rw [List.getElem?_eq_none (by simp; omega)] at h
      cases h
  clear c1 c2 c3 gp
  walk_at "run"
  unfold lc_law_due_1
  walk_at "run"
  refine lc_enmT (dueB m ((t * 2 ^ s : Nat) : Int) q n T) (fun i => .int (i : Int)) g3 (by omega) (fun i x hx ih4 f4 => ?_) (fun i x hx hb ih4 f4 => ?_) fun ih4 f4 l4 g4 => ?_
  · have e := at_ i x hx
    subst e
    clear k at_ f4 f3
    unfold ln_law_due_1
    walk_at "run"
  · clear k at_ f4 f3
    unfold le_law_due_1
    walk_at "run"
  · rw [lst, key] at g4
    have kz := k ih3.length ih4 (by omega) l4 (fun i hi => by rw [f4 i (by omega), f3 i (by omega) (by omega), F2 i hi]) (by omega) (by rw [g4]; unfold toZ; rw [List.map_map]; rfl)
    clear k at_ l3
    walk_at "run"
    all_goals exact kz
end L3
/-! K56c: larger numbers, whole rounds, the law. -/
namespace L3
open PySem PySem.Spec PyProof.Rows L2
local macro_rules | `(tactic| walk_at "get") => `(tactic| simp (disch := first | assumption | omega | (simp only [List.length_append, List.length_set, List.length_cons, List.length_nil, List.length_map] <;> omega) | fail) only [g_new, g_nw, g_old, g_set, g_sne, List.length_append, List.length_set, List.length_cons, List.length_nil, List.length_map, List.map_map, Function.comp_def, xs_lst, xs_tup, isL_lst, isL_tup, ↓reduceIte, *])
local macro_rules | `(tactic| walk_at "fr") => `(tactic| first | (intro _ _ _; simp (disch := first | assumption | omega | (simp only [List.length_append, List.length_set, List.length_cons, List.length_nil, List.length_map] <;> omega) | fail) only [g_new, g_nw, g_old, g_set, g_sne, List.length_append, List.length_set, List.length_cons, List.length_nil, List.length_map, List.map_map, Function.comp_def, xs_lst, xs_tup, isL_lst, isL_tup, ↓reduceIte, *]) | (intro _ _; simp (disch := first | assumption | omega | (simp only [List.length_append, List.length_set, List.length_cons, List.length_nil, List.length_map] <;> omega) | fail) only [g_new, g_nw, g_old, g_set, g_sne, List.length_append, List.length_set, List.length_cons, List.length_nil, List.length_map, List.map_map, Function.comp_def, xs_lst, xs_tup, isL_lst, isL_tup, ↓reduceIte, *]))
local macro_rules | `(tactic| walk_at "run") => `(tactic| simp -implicitDefEqProofs (disch := first | assumption | omega | (simp only [List.length_append, List.length_set, List.length_cons, List.length_nil, List.length_map] <;> omega) | fail) only [wp_ok, wp_exc, wp_stuck, ws_ok, ws_exc, ws_stuck, wp_op, kk_op, kk_un, wp_un, wp_cons, kk_cons, kk_cons2, wp_nil, wp_c, wp_app, wp_if, kk_if1, kk_if0, wp_and, kk_and1, kk_and0, wp_or, kk_or1, kk_or0, wp_not, kk_not, wp_tb, kk_tb, wp_andV, kk_andV1, kk_andV0, wp_orV, kk_orV1, kk_orV0, wp_notV, kk_notV, wp_noneS, wp_some, kk_some, wp_sl, kk_sl, kk_sl2, kk_sl3, wp_mL, kk_mL, kk_mL2, wp_mL0, kk_mL0, wp_chain, kk_ch, kk_ch2, kk_ch31, kk_ch30, ws_set, kks_nm, kks_g, kks_tup, kks_lst, ws_expr, kks_expr, ws_ret, kks_ret, ws_retN, ws_pass, ws_brk, ws_cont, ws_raise, ws_if, kks_if1, kks_if0, ws_seq, kks_next, kks_retS, kks_brk, kks_cont, kk_augE, ws_aug, kks_aug, kks_aug2, ws_par, kks_par, ws_setL, kks_sl, kks_sl2, kks_sl3, wp_def, kkd_ret, kkd_next, kkdE, kkE, ws_for, wp_lc, wp_r1, kk_r1, wp_r2, kk_r2, wp_il, wp_it, wp_ie, wp_iz, kk_il, kk_il2, kk_it, kk_it2, kk_ie, kk_ie2, kk_iz, kk_iz2, lAt_k, k_lAtL, k_lAtO, k_lAtT, wp_int, wp_add, wp_addI, wp_sub, wp_neg, wp_lt, wp_le, wp_gt, wp_ge, wp_max2, wp_min2, wp_abs, wp_mulI, wp_mul, wp_fdiv, wp_mod, wp_shl, wp_shr, wp_pow, wp_isN, wp_notN, wp_eqI, wp_neI, wp_ix, kk_ix, kk_ix2, wp_len, kk_lenL, kk_lenT, kk_lenO, kk_lenP, wp_appd, kk_app1, isL_k, kk_isL, startI_cons, startI_nil, rep_succ, rep_zero, List.getElem?_cons_zero, List.getElem?_cons_succ, List.set_cons_zero, List.set_cons_succ, f_call, m_var, List.append_nil, List.nil_append, List.cons_append, List.length_cons, List.length_nil, if_true, if_false, g_tup, g_lst, g_cons, g_nil, g_nm, Option.bind_some, kks_g, atI_0, atI_1, atI_2, atI_3, atI_4, atI_5, atI_6, atI_7, atI_8, atI_9, atI_10, atI_11, atI_12, atI_last, cutI_1, ixN_30, ixN_31, ixN_32, Int.toNat_zero, Int.reduceToNat, Int.reduceNeg, xs_lst, xs_tup, xs_ro, xs_rot, isL_lst, isL_tup, isL_ro, isL_rot, isT_tup, isT_rot, Bool.false_eq_true, Bool.true_eq_false, Bool.not_true, Bool.not_false, decide_true, decide_false, Int.reduceLT, Int.reduceLE, Nat.reduceLT, Nat.reduceLeDiff, Nat.reduceAdd, Nat.reduceEqDiff, Bool.not_eq_true, true_and, and_true, and_self, eq_self, g_new, g_nw, g_old, g_set, g_sne, List.length_set, List.length_append, wp_r3, kk_r3, Int.cast_ofNat_Int, Int.reduceEq, Int.natCast_zero, Int.natCast_one, ws_whileA, wp_isiII, wp_isiIB, wp_isiR, tyO_l, tyO_t, kk_isi, kk_isi2, kit_ll, kit_tt, kit_lt, kit_tl, wp_isiN, wp_isiBl, wp_isiS, tyO_d, kit2_NoneType_int, kit2_NoneType_bool, kit2_NoneType_list, kit2_NoneType_tuple, kit2_NoneType_str, kit2_bool_int, kit2_bool_bool, kit2_bool_list, kit2_bool_tuple, kit2_bool_str, kit2_str_int, kit2_str_bool, kit2_str_list, kit2_str_tuple, kit2_str_str, kit2_dict_int, kit2_dict_bool, kit2_dict_list, kit2_dict_tuple, kit2_dict_str, kit2_list_int, kit2_list_bool, kit2_list_str, kit2_tuple_int, kit2_tuple_bool, kit2_tuple_str, kit2_int_list, kit2_int_tuple, kit2_int_str, kf_next, kf_cont, kf_brk, kf_ret, wipeI, ↓reduceIte, *])
theorem nev_scale {m s t q M : Int} {n : Nat} (h : 0 < M) : nev (m * M) s (t * M) q n = nev m s t q n := by
  unfold nev
  rw [show t * M * 2 ^ s.toNat = t * 2 ^ s.toNat * M by rw [Int.mul_right_comm], show q * n * (m * M) = q * n * m * M by rw [← Int.mul_assoc], gcd_scale h, nsL_scale h]
theorem nev_pow {m s t q d : Int} {n : Nat} (s0 : 0 ≤ s) (d0 : 0 ≤ d) : nev (m * 2 ^ d.toNat) (s + d) t q n = nev m s t q n := by
  unfold nev
  rw [Int.toNat_add s0 d0, Int.pow_add, ← Int.mul_assoc t, ← Int.mul_assoc (q * n), gcd_scale (Int.pow_pos (by decide)), nsL_scale (Int.pow_pos (by decide))]
theorem nev_turns {t q M : Int} {n : Nat} (h : 0 < M) : nev 1 0 (t * M) (q * M) n = nev 1 0 t q n := by
  unfold nev
  rw [show t * M * 2 ^ (0 : Int).toNat = t * 2 ^ (0 : Int).toNat * M by rw [Int.mul_right_comm], show q * M * n * 1 = q * n * 1 * M by rw [Int.mul_one, Int.mul_one, Int.mul_right_comm], gcd_scale h, nsL_turns h]
theorem nev_one {t q M : Int} {n : Nat} (h : 0 < M) : nev M 0 (M * t) q n = nev 1 0 t q n := by
  have e := nev_scale (m := 1) (s := 0) (t := t) (q := q) (n := n) h
  rw [Int.one_mul, Int.mul_comm] at e
  exact e
theorem gcd_one {a b : Nat} {x : Nat} (h : a = b * x + 1 ∨ a + 1 = b * x) : Nat.gcd a b = 1 := by
  have h1 := Nat.gcd_dvd_left a b
  have h2 : Nat.gcd a b ∣ b * x := Nat.dvd_trans (Nat.gcd_dvd_right a b) (Nat.dvd_mul_right b x)
  rcases h with h | h
  · have h3 := Nat.dvd_sub h1 h2
    rw [h, Nat.add_sub_cancel_left] at h3
    rw [h]
    exact Nat.dvd_one.mp h3
  · have h3 := Nat.dvd_sub h2 h1
    rw [← h, Nat.add_sub_cancel_left] at h3
    exact Nat.dvd_one.mp h3
theorem nev_co {t : Int} {q n : Nat} {x : Nat} (hq : 0 < q) (h : t = (q * n * x : Nat) + 1 ∨ t + 1 = (q * n * x : Nat)) (t0 : 0 ≤ t) : nev 1 0 t q n = [] := by
  unfold nev
  obtain ⟨T, rfl⟩ := Int.eq_ofNat_of_zero_le t0
  have e : (Int.gcd ((T : Int) * 2 ^ (0 : Int).toNat) ((q : Int) * n * 1) : Nat) = 1 := by
    rw [show ((T : Int) * 2 ^ (0 : Int).toNat) = T by simp, Int.mul_one]
    have : ((q : Int) * n) = ((q * n : Nat) : Int) := by push_cast; rfl
    rw [this]
    show Nat.gcd T (q * n) = 1
    exact gcd_one (x := x) (by omega)
  rw [e]
  exact ns_1 (by omega)
theorem nev_W {q n x : Nat} (hq : 0 < q) (hx : 0 < x) : nev 1 0 ((q : Int) * n * x) q n = (List.range n).filter fun k => decide (1 ≤ k) := by
  unfold nev
  have e : (Int.gcd ((q : Int) * n * x * 2 ^ (0 : Int).toNat) ((q : Int) * n * 1) : Nat) = q * n := by
    rw [show ((q : Int) * n * x * 2 ^ (0 : Int).toNat) = ((q * n * x : Nat) : Int) by simp, Int.mul_one]
    have : ((q : Int) * n) = ((q * n : Nat) : Int) := by push_cast; rfl
    rw [this]
    show Nat.gcd (q * n * x) (q * n) = q * n
    exact Nat.gcd_eq_right (Nat.dvd_mul_right _ _)
  rw [e]
  have := ns_W (q := q) (n := n) hq
  push_cast
  exact this
theorem wp_same {x y : Nat} {ns : List Int} {ih : IH} {Q : PQ IV} {E : EQ} (h1 : ih[x]? = some (.lst (ns.map IV.int))) (h2 : ih[y]? = some (.lst (ns.map IV.int))) (q : Q (.bl false) ih) : wp (f_ne (.ref x) (.ref y) ih) Q E := by
  refine wp_ne (Is.ints h1 rfl rfl) (Is.ints h2 rfl rfl) (shaped_ints _) (shaped_ints _) ?_
  rw [eqv_same (shaped_ints _)]
  exact q
theorem Fr.src {p : Nat} {a b c : IH} (h : Fr p a b) (k : Fx b c) (l : a.length ≤ b.length) : Fr p a c := h.trans k.fr l
theorem w_far_right (c : Cs) {p u mm : Nat} {m s t q n : Nat} {ih : IH} {Q : PQ IV} {E : EQ} (h : Src0 p mm ih) (hmm : mm + 20 ≤ 1000000) (m0 : 0 < m) (hm : m ≤ 12) (hs : s ≤ 2) (ht : 0 < t) (tB : t ≤ 8) (hq : 0 < q) (qB : q ≤ 9) (hn : 0 < n) (nB : n ≤ 40)
    (gu : ih[u]? = some (.lst ((toZ (nev m s t q n)).map IV.int))) (up : u ≠ p)
    (k : ∀ ih', Src0 p (mm + 20) ih' → Fr p ih ih' → ih.length ≤ ih'.length → Q (.bl true) ih') : wp (m_law_far_right c [.ref p, .ref u, .int m, .int s, .int t, .int q, .int n] ih) Q E := by
  have c16 : cPow 10 16 = true := by decide
  have c45 : cPow 10 45 = true := by decide
  have c64 : cPow 2 64 = true := by decide
  have m4 : B 4 (m : Int) := B.lt (by omega) (by omega)
  have t4 : B 4 (t : Int) := B.lt (by omega) (by omega)
  have q4 : B 4 (q : Int) := B.lt (by omega) (by omega)
  have ul := lt_of_get gu
  unfold m_law_far_right b_law_far_right
  walk_at "run"
  refine w_great c h (by omega) (by decide) (by decide) fun v ih1 v0 v1 s1 f1 l1 => ?_
  have gu1 : ih1[u]? = some (.lst ((toZ (nev m s t q n)).map IV.int)) := by rw [f1 u ul up]; exact gu
  obtain ⟨M, eM⟩ : ∃ M : Int, 1 + v = M := ⟨_, rfl⟩
  have M1 : 1 ≤ M := by omega
  have M2 : M ≤ 10 ^ 16 := by omega
  have MB : B 54 M := B.lt (by omega) (Int.lt_of_le_of_lt M2 (by decide))
  have cm1 : cMul (m : Int) M = true := B.cmul m4 MB (by decide)
  have cm2 : cMul (t : Int) M = true := B.cmul t4 MB (by decide)
  have mM1 : (m : Int) * 1 ≤ m * M := Int.mul_le_mul_of_nonneg_left M1 (by omega)
  have mM2 : (m : Int) * M < 2 ^ 64 := by
    have h1 := Int.mul_le_mul_of_nonneg_right (show (m : Int) ≤ 12 by omega) (show 0 ≤ M by omega)
    have h2 : (12 : Int) * 10 ^ 16 < 2 ^ 64 := by decide
    omega
  have tM1 : (t : Int) * 1 ≤ t * M := Int.mul_le_mul_of_nonneg_left M1 (by omega)
  walk_at "run"
  refine wp_tup (by simp) ?_
  generalize hP : k_cons _ _ _ _ = P
  refine newN fun r ih2 r1 r2 l2 f2 g2 => ?_
  subst hP
  have s2 := s1.fx f2
  have gu2 : ih2[u]? = some (.lst ((toZ (nev m s t q n)).map IV.int)) := by rw [f2 u (by omega)]; exact gu1
  have F2 := f1.src f2 l1
  clear gu1 f1 f2
  walk_at "run"
  refine w_never c g2 (by omega) mM2 (by omega) (by omega) (by omega) ((B.mul t4 MB).mono (by decide)) (by omega) (q4.mono (by decide)) hn nB fun w ih3 w1 w2 f3 l3 g3 => ?_
  rw [nev_scale (by omega)] at g3
  have gu3 : ih3[u]? = some (.lst ((toZ (nev m s t q n)).map IV.int)) := by rw [f3 u (by omega)]; exact gu2
  have s3 := s2.fx f3
  have F3 := F2.src f3 (by omega)
  clear gu2 f3 g2 s2 F2
  walk_at "run"
  refine wp_same g3 gu3 ?_
  clear g3
  walk_at "run"
  refine w_next c s3 (by decide) ((lit 10 : B 10 50).mono (by decide)) (by omega) fun d ih4 d0 d1 s4 f4 l4 => ?_
  have gu4 : ih4[u]? = some (.lst ((toZ (nev m s t q n)).map IV.int)) := by rw [f4 u (by omega) up]; exact gu3
  have F4 := F3.trans f4 (by omega)
  have cs : cShl (m : Int) d = true := by
    obtain ⟨i, rfl⟩ := Int.eq_ofNat_of_zero_le d0
    exact cShl_of m4 (by omega)
  have p0 : (0 : Int) < 2 ^ d.toNat := Int.pow_pos (by decide)
  have p1 : (2 : Int) ^ d.toNat ≤ 2 ^ 49 := by exact_mod_cast Nat.pow_le_pow_right (by decide) (show d.toNat ≤ 49 by omega)
  have mP1 : (m : Int) * 1 ≤ m * 2 ^ d.toNat := Int.mul_le_mul_of_nonneg_left (by omega) (by omega)
  have mP2 : (m : Int) * 2 ^ d.toNat < 2 ^ 64 := by
    have h1 := Int.mul_le_mul (show (m : Int) ≤ 12 by omega) p1 (by omega) (by omega)
    have h2 : (12 : Int) * 2 ^ 49 < 2 ^ 64 := by decide
    omega
  clear gu3 f4 F3 s3
  walk_at "run"
  refine wp_tup (by simp) ?_
  generalize hP : k_cons _ _ _ _ = P
  refine newN fun r' ih5 r3 r4 l5 f5 g5 => ?_
  subst hP
  have gu5 : ih5[u]? = some (.lst ((toZ (nev m s t q n)).map IV.int)) := by rw [f5 u (by omega)]; exact gu4
  have s5 := s4.fx f5
  have F5 := F4.src f5 (by omega)
  clear gu4 f5 F4 s4
  walk_at "run"
  refine w_never c g5 (by omega) mP2 (by omega) (by omega) (by omega) (t4.mono (by decide)) (by omega) (q4.mono (by decide)) hn nB fun w' ih6 w3 w4 f6 l6 g6 => ?_
  rw [nev_pow (by omega) d0] at g6
  have gu6 : ih6[u]? = some (.lst ((toZ (nev m s t q n)).map IV.int)) := by rw [f6 u (by omega)]; exact gu5
  have s6 := s5.fx f6
  have F6 := F5.src f6 (by omega)
  clear gu5 f6 g5 s5 F5
  walk_at "run"
  refine wp_same g6 gu6 ?_
  clear g6 gu6 cs mP1 mP2 p0 p1 cm1 cm2 mM1 mM2 tM1 MB eM
  walk_at "run"
  refine wp_tup (by simp) ?_
  generalize hP : k_cons _ _ _ _ = P
  refine newN fun r'' ih7 r5 r6 l7 f7 g7 => ?_
  subst hP
  have s7 := s6.fx f7
  have F7 := F6.src f7 (by omega)
  clear f7 F6 s6
  walk_at "run"
  refine w_never c g7 (by decide) (by decide) (by decide) (by decide) (by omega) (t4.mono (by decide)) (by omega) (q4.mono (by decide)) hn nB fun z ih8 z1 z2 f8 l8 g8 => ?_
  have s8 := s7.fx f8
  have F8 := F7.src f8 (by omega)
  clear f8 F7 s7 g7
  have zp : z ≠ p := by have := h.lt; omega
  walk_at "run"
  refine w_great c s8 (by omega) (by decide) (by decide) fun v' ih9 v2 v3 s9 f9 l9 => ?_
  have g9 : ih9[z]? = some (.lst ((toZ (nev 1 0 t q n)).map IV.int)) := by rw [f9 z z2 zp]; exact g8
  have F9 := F8.trans f9 (by omega)
  clear g8 f9 F8 s8
  obtain ⟨N, eN⟩ : ∃ N : Int, 1 + v' = N := ⟨_, rfl⟩
  have N1 : 1 ≤ N := by omega
  have N2 : N ≤ 10 ^ 45 := by omega
  have NB : B 150 N := B.lt (by omega) (Int.lt_of_le_of_lt N2 (by decide))
  have cm1 : cMul (t : Int) N = true := B.cmul t4 NB (by decide)
  have cm2 : cMul (q : Int) N = true := B.cmul q4 NB (by decide)
  have cm3 : cMul N (t : Int) = true := B.cmul NB t4 (by decide)
  have tN1 : (t : Int) * 1 ≤ t * N := Int.mul_le_mul_of_nonneg_left N1 (by omega)
  have qN1 : (q : Int) * 1 ≤ q * N := Int.mul_le_mul_of_nonneg_left N1 (by omega)
  clear v0 v1
  walk_at "run"
  refine wp_tup (by simp) ?_
  generalize hP : k_cons _ _ _ _ = P
  refine newN fun r3' ih10 r7 r8 l10 f10 g10 => ?_
  subst hP
  have gz10 : ih10[z]? = some (.lst ((toZ (nev 1 0 t q n)).map IV.int)) := by rw [f10 z (by omega)]; exact g9
  have s10 := s9.fx f10
  have F10 := F9.src f10 (by omega)
  clear f10 F9 s9 g9
  walk_at "run"
  refine w_never c g10 (by decide) (by decide) (by decide) (by decide) (by omega) ((B.mul t4 NB).mono (by decide)) (by omega) ((B.mul q4 NB).mono (by decide)) hn nB fun y ih11 y1 y2 f11 l11 g11 => ?_
  rw [nev_turns (by omega)] at g11
  have gz11 : ih11[z]? = some (.lst ((toZ (nev 1 0 t q n)).map IV.int)) := by rw [f11 z (by omega)]; exact gz10
  have s11 := s10.fx f11
  have F11 := F10.src f11 (by omega)
  clear gz10 f11 g10 s10 F10
  walk_at "run"
  refine wp_same g11 gz11 ?_
  clear g11
  have last : ∀ ih12, ih12[z]? = some (.lst ((toZ (nev 1 0 t q n)).map IV.int)) → Src0 p (mm + 20) ih12 → Fr p ih ih12 → ih11.length ≤ ih12.length →
      ws (ms_ret (m_op f_eq (m_var 9) (m_app (f_call 5 [] (m_law_due c)) (m_cons (m_c (.int 1)) (m_cons (m_c (.int 0)) (m_cons (m_var 4) (m_cons (m_var 5) (m_cons (m_var 6) m_nil))))))) [some (.ref p), some (.ref u), some (.int m), some (.int s), some (.int t), some (.int q), some (.int n), some (.int N), some (.int d), some (.ref z)] ih12) (kd Q) (kdE E) := by
    intro ih12 gz s12 F12 l12
    clear s11 F11 gz11
    walk_at "run"
    refine w_due c (m := 1) (s := 0) (by decide) (by decide) (by decide) ht tB hq qB hn nB fun x ih13 x1 x2 f13 l13 g13 => ?_
    have gz' : ih13[z]? = some (.lst ((toZ (nev 1 0 t q n)).map IV.int)) := by rw [f13 z (by omega)]; exact gz
    have kz := k ih13 (s12.fx f13) (F12.src f13 (by omega)) (by omega)
    clear gz f13 F12 s12 k
    walk_at "run"
    refine wp_eq (Is.ints gz' rfl rfl) (Is.ints g13 rfl rfl) (shaped_ints _) (shaped_ints _) ?_
    rw [show ((1 : Nat) : Int) = 1 from rfl, show ((0 : Nat) : Int) = 0 from rfl, eqv_same (shaped_ints _)]
    clear gz' g13
    walk_at "run"
    all_goals exact kz
  by_cases hN : N < 2 ^ 64
  · have dN := decide_eq_true hN
    clear k
    walk_at "run"
    refine wp_tup (by simp) ?_
    generalize hP : k_cons _ _ _ _ = P
    refine newN fun r4' ih12 r9 r10 l12 f12 g12 => ?_
    subst hP
    have gz12 : ih12[z]? = some (.lst ((toZ (nev 1 0 t q n)).map IV.int)) := by rw [f12 z (by omega)]; exact gz11
    have s12 := s11.fx f12
    have F12 := F11.src f12 (by omega)
    clear f12 F11 s11 gz11
    walk_at "run"
    have Nt : N * (t : Int) = t * N := Int.mul_comm _ _
    refine w_never c g12 (by omega) hN (by decide) (by decide) (by omega) ((B.mul NB t4).mono (by decide)) (by omega) (q4.mono (by decide)) hn nB fun x ih13 x1 x2 f13 l13 g13 => ?_
    rw [nev_one (by omega)] at g13
    have gz13 : ih13[z]? = some (.lst ((toZ (nev 1 0 t q n)).map IV.int)) := by rw [f13 z (by omega)]; exact gz12
    have s13 := s12.fx f13
    have F13 := F12.src f13 (by omega)
    have kz := last ih13 gz13 (s13.mono (by omega)) F13 (by omega)
    clear gz12 f13 g12 s12 F12 last
    walk_at "run"
    refine wp_same g13 gz13 ?_
    clear g13 gz13 s13 F13
    walk_at "run"
    all_goals exact kz
  · have dN := decide_eq_false hN
    have kz := last ih11 gz11 (s11.mono (by omega)) F11 (by omega)
    clear k last gz11 s11 F11
    walk_at "run"
    all_goals exact kz
end L3
/-! K56d: whole rounds, the law. -/
namespace L3
open PySem PySem.Spec PyProof.Rows L2
local macro_rules | `(tactic| walk_at "get") => `(tactic| simp (disch := first | assumption | omega | (simp only [List.length_append, List.length_set, List.length_cons, List.length_nil, List.length_map] <;> omega) | fail) only [g_new, g_nw, g_old, g_set, g_sne, List.length_append, List.length_set, List.length_cons, List.length_nil, List.length_map, List.map_map, Function.comp_def, xs_lst, xs_tup, isL_lst, isL_tup, ↓reduceIte, *])
local macro_rules | `(tactic| walk_at "fr") => `(tactic| first | (intro _ _ _; simp (disch := first | assumption | omega | (simp only [List.length_append, List.length_set, List.length_cons, List.length_nil, List.length_map] <;> omega) | fail) only [g_new, g_nw, g_old, g_set, g_sne, List.length_append, List.length_set, List.length_cons, List.length_nil, List.length_map, List.map_map, Function.comp_def, xs_lst, xs_tup, isL_lst, isL_tup, ↓reduceIte, *]) | (intro _ _; simp (disch := first | assumption | omega | (simp only [List.length_append, List.length_set, List.length_cons, List.length_nil, List.length_map] <;> omega) | fail) only [g_new, g_nw, g_old, g_set, g_sne, List.length_append, List.length_set, List.length_cons, List.length_nil, List.length_map, List.map_map, Function.comp_def, xs_lst, xs_tup, isL_lst, isL_tup, ↓reduceIte, *]))
local macro_rules | `(tactic| walk_at "run") => `(tactic| simp -implicitDefEqProofs (disch := first | assumption | omega | (simp only [List.length_append, List.length_set, List.length_cons, List.length_nil, List.length_map] <;> omega) | fail) only [wp_ok, wp_exc, wp_stuck, ws_ok, ws_exc, ws_stuck, wp_op, kk_op, kk_un, wp_un, wp_cons, kk_cons, kk_cons2, wp_nil, wp_c, wp_app, wp_if, kk_if1, kk_if0, wp_and, kk_and1, kk_and0, wp_or, kk_or1, kk_or0, wp_not, kk_not, wp_tb, kk_tb, wp_andV, kk_andV1, kk_andV0, wp_orV, kk_orV1, kk_orV0, wp_notV, kk_notV, wp_noneS, wp_some, kk_some, wp_sl, kk_sl, kk_sl2, kk_sl3, wp_mL, kk_mL, kk_mL2, wp_mL0, kk_mL0, wp_chain, kk_ch, kk_ch2, kk_ch31, kk_ch30, ws_set, kks_nm, kks_g, kks_tup, kks_lst, ws_expr, kks_expr, ws_ret, kks_ret, ws_retN, ws_pass, ws_brk, ws_cont, ws_raise, ws_if, kks_if1, kks_if0, ws_seq, kks_next, kks_retS, kks_brk, kks_cont, kk_augE, ws_aug, kks_aug, kks_aug2, ws_par, kks_par, ws_setL, kks_sl, kks_sl2, kks_sl3, wp_def, kkd_ret, kkd_next, kkdE, kkE, ws_for, wp_lc, wp_r1, kk_r1, wp_r2, kk_r2, wp_il, wp_it, wp_ie, wp_iz, kk_il, kk_il2, kk_it, kk_it2, kk_ie, kk_ie2, kk_iz, kk_iz2, lAt_k, k_lAtL, k_lAtO, k_lAtT, wp_int, wp_add, wp_addI, wp_sub, wp_neg, wp_lt, wp_le, wp_gt, wp_ge, wp_max2, wp_min2, wp_abs, wp_mulI, wp_mul, wp_fdiv, wp_mod, wp_shl, wp_shr, wp_pow, wp_isN, wp_notN, wp_eqI, wp_neI, wp_ix, kk_ix, kk_ix2, wp_len, kk_lenL, kk_lenT, kk_lenO, kk_lenP, wp_appd, kk_app1, isL_k, kk_isL, startI_cons, startI_nil, rep_succ, rep_zero, List.getElem?_cons_zero, List.getElem?_cons_succ, List.set_cons_zero, List.set_cons_succ, f_call, m_var, List.append_nil, List.nil_append, List.cons_append, List.length_cons, List.length_nil, if_true, if_false, g_tup, g_lst, g_cons, g_nil, g_nm, Option.bind_some, kks_g, atI_0, atI_1, atI_2, atI_3, atI_4, atI_5, atI_6, atI_7, atI_8, atI_9, atI_10, atI_11, atI_12, atI_last, cutI_1, ixN_30, ixN_31, ixN_32, Int.toNat_zero, Int.reduceToNat, Int.reduceNeg, xs_lst, xs_tup, xs_ro, xs_rot, isL_lst, isL_tup, isL_ro, isL_rot, isT_tup, isT_rot, Bool.false_eq_true, Bool.true_eq_false, Bool.not_true, Bool.not_false, decide_true, decide_false, Int.reduceLT, Int.reduceLE, Nat.reduceLT, Nat.reduceLeDiff, Nat.reduceAdd, Nat.reduceEqDiff, Bool.not_eq_true, true_and, and_true, and_self, eq_self, g_new, g_nw, g_old, g_set, g_sne, List.length_set, List.length_append, wp_r3, kk_r3, Int.cast_ofNat_Int, Int.reduceEq, Int.natCast_zero, Int.natCast_one, ws_whileA, wp_isiII, wp_isiIB, wp_isiR, tyO_l, tyO_t, kk_isi, kk_isi2, kit_ll, kit_tt, kit_lt, kit_tl, wp_isiN, wp_isiBl, wp_isiS, tyO_d, kit2_NoneType_int, kit2_NoneType_bool, kit2_NoneType_list, kit2_NoneType_tuple, kit2_NoneType_str, kit2_bool_int, kit2_bool_bool, kit2_bool_list, kit2_bool_tuple, kit2_bool_str, kit2_str_int, kit2_str_bool, kit2_str_list, kit2_str_tuple, kit2_str_str, kit2_dict_int, kit2_dict_bool, kit2_dict_list, kit2_dict_tuple, kit2_dict_str, kit2_list_int, kit2_list_bool, kit2_list_str, kit2_tuple_int, kit2_tuple_bool, kit2_tuple_str, kit2_int_list, kit2_int_tuple, kit2_int_str, kf_next, kf_cont, kf_brk, kf_ret, wipeI, ↓reduceIte, *])
theorem for_tup2 {S : SQ} {F : ES} {env : Env} {ih : IH} {mb : Env → IH → RS} {x n : Nat} {a b : IV} (P : Nat → Env → IH → Prop) (hg : ih[n]? = some (.tup [a, b])) (h0 : P 0 env ih) (ho : ∀ i env ih, P i env ih → ih[n]? = some (.tup [a, b]))
    (s0 : ∀ env ih, P 0 env ih → ws (mb (env.set x (some a)) ih) (kf (P 1) S) F) (s1 : ∀ env ih, P 1 env ih → ws (mb (env.set x (some b)) ih) (kf (P 2) S) F) (fin : ∀ env ih, P 2 env ih → S (.next env) ih) : ks_for (g_nm x) mb env S F (.tup n) ih := by
  have la : ∀ ih : IH, ih[n]? = some (.tup [a, b]) → lAt ih n false = some [a, b] := fun ih h => by
    unfold lAt
    rw [h]
    rfl
  refine go_ind 2 P (fun i env ih hi h => ?_) (fun env ih h => ⟨by unfold Src.turn; dsimp only; rw [la _ (ho _ _ _ h)]; rfl, fin env ih h⟩) _ 0 env ih (Nat.zero_le _) (by
    show _ < (Src.tup n).size ih + 1
    unfold Src.size
    dsimp only
    rw [hg]
    show 2 - 0 < 2 + 1
    omega) h0
  have hi' : i = 0 ∨ i = 1 := by omega
  rcases hi' with e | e
  · subst e
    exact ⟨a, ih, _, by unfold Src.turn; dsimp only; rw [la _ (ho _ _ _ h)]; rfl, rfl, s0 env ih h⟩
  · subst e
    exact ⟨b, ih, _, by unfold Src.turn; dsimp only; rw [la _ (ho _ _ _ h)]; rfl, rfl, s1 env ih h⟩
theorem w_pl1 (c : Cs) {r : Nat} {q n : Nat} {t : Int} {ih : IH} {env : Env} {a0 a3 a4 : Option IV} {P : Env → IH → Prop} {S : SQ} {F : ES} (hq : 0 < q) (qB : q ≤ 9) (hn : 0 < n) (nB : n ≤ 40) (t1 : 1 ≤ t) (tB : B 300 t) (e : nev 1 0 t q n = [])
    (k : ∀ ih', Fx ih ih' → ih.length ≤ ih'.length → P [a0, some (.int q), some (.int n), a3, a4, some (.int t)] ih') : ws (lb_law_plain_right_1 c [a0, some (.int q), some (.int n), a3, a4, some (.int t)] ih) (kf P S) F := by
  have q4 : B 4 (q : Int) := B.lt (by omega) (by omega)
  unfold lb_law_plain_right_1
  walk_at "run"
  refine wp_tup (by simp) ?_
  generalize hP : k_cons _ _ _ _ = P'
  refine newN fun r ih2 r1 r2 l2 f2 g2 => ?_
  subst hP
  walk_at "run"
  refine w_never c g2 (by decide) (by decide) (by decide) (by decide) t1 tB (by omega) (q4.mono (by decide)) hn nB fun w ih3 w1 w2 f3 l3 g3 => ?_
  rw [e] at g3
  have F3 := f2.trans f3 (by omega)
  clear f3 f2 g2
  walk_at "run"
  rw [a_lst (by simp), wp_ok]
  generalize hP : k_un _ _ _ = P'
  refine newN fun r' ih4 r3 r4 l4 f4 g4 => ?_
  subst hP
  have g3' : ih4[w]? = some (.lst (([] : List Int).map IV.int)) := by rw [f4 w w2]; exact g3
  have kz := k ih4 (F3.trans f4 (by omega)) (by omega)
  clear k F3 f4 g3
  walk_at "run"
  refine wp_same (ns := []) g3' g4 ?_
  clear g3' g4
  walk_at "run"
  all_goals exact Inv.mk kz
theorem w_plain (c : Cs) {p mm : Nat} {q n : Nat} {ih : IH} {Q : PQ IV} {E : EQ} (h : Src0 p mm ih) (hmm : mm + 6 ≤ 1000000) (hq : 0 < q) (qB : q ≤ 9) (hn : 0 < n) (nB : n ≤ 40)
    (k : ∀ ih', Src0 p (mm + 6) ih' → Fr p ih ih' → ih.length ≤ ih'.length → Q (.bl true) ih') : wp (m_law_plain_right c [.ref p, .int q, .int n] ih) Q E := by
  have c40 : cPow 10 40 = true := by decide
  have q4 : B 4 (q : Int) := B.lt (by omega) (by omega)
  have n6 : B 6 (n : Int) := B.lt (by omega) (by omega)
  have c1 : cMul (q : Int) n = true := B.cmul q4 n6 (by decide)
  unfold m_law_plain_right b_law_plain_right
  walk_at "run"
  refine w_great c h (by omega) (by decide) (by decide) fun v ih1 v0 v1 s1 f1 l1 => ?_
  obtain ⟨x, ex⟩ : ∃ x : Nat, 1 + v = (x : Int) := ⟨(1 + v).toNat, by omega⟩
  have x0 : 0 < x := by omega
  have xB : B 140 (x : Int) := B.lt (by omega) (Int.lt_of_le_of_lt (show (x : Int) ≤ 10 ^ 40 by omega) (by decide))
  have c2 : cMul ((q : Int) * n) x = true := B.cmul (B.mul q4 n6) xB (by decide)
  have fB : B 150 ((q : Int) * n * x) := B.mul (B.mul q4 n6) xB
  have f0 : 0 < (q : Int) * n * x := Int.mul_pos (Int.mul_pos (by omega) (by omega)) (by omega)
  have e0 := nev_W (q := q) (n := n) hq x0
  have e1 : nev 1 0 ((q : Int) * n * x + 1) q n = [] := nev_co (x := x) hq (.inl (by push_cast; rfl)) (by omega)
  have e2 : nev 1 0 (2 * ((q : Int) * n * x) - 1) q n = [] := nev_co (x := 2 * x) hq (.inr (by push_cast; rw [Int.mul_left_comm]; omega)) (by omega)
  obtain ⟨f, ef⟩ : ∃ f : Int, (q : Int) * n * x = f := ⟨_, rfl⟩
  rw [ef] at e0 e1 e2 fB f0
  have c3 : cMul 2 f = true := B.cmul (lit 2 : B 2 2) fB (by decide)
  clear v0 v1
  walk_at "run"
  refine wp_tup (by simp) ?_
  generalize hP : k_it _ = P'
  refine newN fun r ih2 r1 r2 l2 f2 g2 => ?_
  subst hP
  have s2 := s1.fx f2
  have F2 := f1.src f2 l1
  clear s1 f1 f2
  walk_at "run"
  refine for_tup2 (fun i env ih' => (∃ a5, env = [some (.ref p), some (.int q), some (.int n), some (.int (q * n)), some (.int f), a5]) ∧ Fx ih2 ih' ∧ ih2.length ≤ ih'.length) g2 ⟨⟨_, rfl⟩, Fx.refl, Nat.le_refl _⟩ (fun i env ih' ⟨_, fx, _⟩ => by rw [fx r r2]; exact g2) (fun env ih' ⟨⟨a5, ee⟩, fx, lx⟩ => ?_) (fun env ih' ⟨⟨a5, ee⟩, fx, lx⟩ => ?_) fun env ih' ⟨⟨a5, ee⟩, fx, lx⟩ => ?_
  · subst ee
    exact w_pl1 c hq qB hn nB (by omega) ((B.add fB (lit 150)).mono (by decide)) e1 (r := 0) (env := []) fun ih'' fy ly => ⟨⟨_, rfl⟩, fx.trans fy lx, by omega⟩
  · subst ee
    exact w_pl1 c hq qB hn nB (by omega) ((B.sub (B.mul (lit 2 : B 2 2) fB) (lit 152)).mono (by decide)) e2 (r := 0) (env := []) fun ih'' fy ly => ⟨⟨_, rfl⟩, fx.trans fy lx, by omega⟩
  · subst ee
    have s3 := s2.fx fx
    have F3 := F2.src fx (by omega)
    clear g2 s2 F2 fx e1 e2 c1 c2 c3
    walk_at "run"
    refine wp_tup (by simp) ?_
    generalize hP : k_cons _ _ _ _ = P'
    refine newN fun r' ih4 r3 r4 l4 f4 g4 => ?_
    subst hP
    have s4 := s3.fx f4
    have F4 := F3.src f4 (by omega)
    clear f4 s3 F3
    walk_at "run"
    refine w_never c g4 (by decide) (by decide) (by decide) (by decide) (by omega) (fB.mono (by decide)) (by omega) (q4.mono (by decide)) hn nB fun w ih5 w1 w2 f5 l5 g5 => ?_
    rw [e0] at g5
    have s5 := s4.fx f5
    have F5 := F4.src f5 (by omega)
    clear f5 s4 F4 g4
    walk_at "run"
    have rg : RgOk 1 (n : Int) := ⟨by omega, by omega, by omega, by omega, by omega⟩
    have e : f_lrg [.int 1, .int (n : Int)] ih5 = .ok (.ref ih5.length) (ih5 ++ [.lst (rgI 1 n)]) := by
      unfold f_lrg
      dsimp only
      rw [if_pos rg]
    rw [e, wp_ok]
    generalize hP : k_un _ _ _ = P'
    refine newN fun y ih6 y1 y2 l6 f6 g6 => ?_
    subst hP
    have g5' : ih6[w]? = some (.lst ((toZ ((List.range n).filter fun k => decide (1 ≤ k))).map IV.int)) := by rw [f6 w w2]; exact g5
    have er : rgI 1 (n : Int) = (toZ ((List.range n).filter fun k => decide (1 ≤ k))).map IV.int := by
      obtain ⟨N, rfl⟩ : ∃ N, n = N + 1 := ⟨n - 1, by omega⟩
      rw [ns_range, List.map_map]
      unfold rgI
      rw [show (((N + 1 : Nat) : Int) - 1).toNat = N by omega]
      rfl
    rw [er] at g6
    have kz := k ih6 (s5.fx f6) (F5.src f6 (by omega)) (by omega)
    clear k s5 f6 F5 g5 e er
    walk_at "run"
    refine wp_eq (Is.ints g5' rfl rfl) (Is.ints g6 rfl rfl) (shaped_ints _) (shaped_ints _) ?_
    rw [eqv_same (shaped_ints _)]
    clear g5' g6
    walk_at "run"
    all_goals exact kz
theorem q_callK {m : List IV → IH → Res IV} {a b d e : IV} {ih : IH} {Q : PQ IV} {E : EQ} : wp (f_callK 4 4 rev4 m [a, b, d, e] ih) Q E = wp (m [e, d, b, a] ih) Q E := by
  unfold f_callK
  rw [if_pos ⟨rfl, rfl⟩]
  rfl
theorem w_turn (c : Cs) {p mm : Nat} {ih : IH} {a0 a1 a3 a4 a5 a6 a7 a8 a9 a10 : Option IV} {S : SQ} {F : ES} (h : Src0 p mm ih) (hm : mm + 100 ≤ 1000000) (P : Env → IH → Prop)
    (kk : ∀ a4 a5 a6 a7 a8 a9 a10 ih', Src0 p (mm + 100) ih' → Fr p ih ih' → ih.length ≤ ih'.length → P [a0, a1, some (.ref p), a3, a4, a5, a6, a7, a8, a9, a10] ih') : ws (lb_law_1 c [a0, a1, some (.ref p), a3, a4, a5, a6, a7, a8, a9, a10] ih) (kf P S) F := by
  have lp := h.lt
  unfold lb_law_1
  walk_at "run"
  refine w_next c h (by decide) ((lit 10 : B 10 12).mono (by decide)) (by omega) fun v1 ih1 v10 v11 s1 f1 l1 => ?_
  obtain ⟨m, em⟩ : ∃ m : Nat, 1 + v1 = (m : Int) := ⟨(1 + v1).toNat, by omega⟩
  walk_at "run"
  refine w_next c s1 (by decide) ((lit 10 : B 10 3).mono (by decide)) (by omega) fun v2 ih2 v20 v21 s2 f2 l2 => ?_
  obtain ⟨s, rfl⟩ := Int.eq_ofNat_of_zero_le v20
  walk_at "run"
  refine w_next c s2 (by decide) ((lit 10 : B 10 8).mono (by decide)) (by omega) fun v3 ih3 v30 v31 s3 f3 l3 => ?_
  obtain ⟨t, et⟩ : ∃ t : Nat, 1 + v3 = (t : Int) := ⟨(1 + v3).toNat, by omega⟩
  walk_at "run"
  refine w_next c s3 (by decide) ((lit 10 : B 10 9).mono (by decide)) (by omega) fun v4 ih4 v40 v41 s4 f4 l4 => ?_
  obtain ⟨q, eq⟩ : ∃ q : Nat, 1 + v4 = (q : Int) := ⟨(1 + v4).toNat, by omega⟩
  have F4 := ((f1.trans f2 (by omega)).trans f3 (by omega)).trans f4 (by omega)
  clear f1 f2 f3 f4 s1 s2 s3
  walk_at "run"
  refine wp_lst (by simp) ?_
  generalize hP : k_cons _ _ _ _ = P'
  refine newN fun o ih5 o1 o2 l5 f5 g5 => ?_
  subst hP
  have s5 := s4.fx f5
  have F5 := F4.src f5 (by omega)
  clear f5 F4 s4
  walk_at "run"
  refine w_one c (xs := [6, 6, 40]) s5 (by omega) g5 (by omega) (by decide) (by decide) fun v5 ih6 v5m s6 f6 l6 => ?_
  have v5b : 6 ≤ v5 ∧ v5 ≤ 40 := by
    simp only [List.mem_cons, List.not_mem_nil, or_false] at v5m
    omega
  walk_at "run"
  refine w_next c s6 (by omega) ((B.lt (n := 10) (by omega) (by omega)).mono (by decide)) (by omega) fun v6 ih7 v60 v61 s7 f7 l7 => ?_
  obtain ⟨n, en⟩ : ∃ n : Nat, 1 + v6 = (n : Int) := ⟨(1 + v6).toNat, by omega⟩
  have F7 := (F5.trans f6 (by omega)).trans f7 (by omega)
  clear f6 f7 F5 s5 s6 g5
  have m0 : 0 < m := by omega
  have m1 : m ≤ 12 := by omega
  have hs : s ≤ 2 := by omega
  have t0 : 0 < t := by omega
  have t1 : t ≤ 8 := by omega
  have q0 : 0 < q := by omega
  have q1 : q ≤ 9 := by omega
  have n0 : 0 < n := by omega
  have n1 : n ≤ 40 := by omega
  have t4 : B 4 (t : Int) := B.lt (by omega) (by omega)
  have q4 : B 4 (q : Int) := B.lt (by omega) (by omega)
  have m64 : (m : Int) < 2 ^ 64 := by omega
  clear v5b v60 v61 v40 v41 v30 v31 v21 v10 v11
  walk_at "run"
  refine w_due c m0 m1 hs t0 t1 q0 q1 n0 n1 fun u ih8 u1 u2 f8 l8 g8 => ?_
  have s8 := s7.fx f8
  have F8 := F7.src f8 (by omega)
  clear f8 s7 F7 em et eq en
  walk_at "run"
  refine wp_tup (by simp) ?_
  generalize hP : k_cons _ _ _ _ = P'
  refine newN fun r1 ih9 r11 r12 l9 f9 g9 => ?_
  subst hP
  have gu9 : ih9[u]? = some (.lst ((toZ (nev m s t q n)).map IV.int)) := by rw [f9 u u2]; exact g8
  have s9 := s8.fx f9
  have F9 := F8.src f9 (by omega)
  clear f9 s8 F8 g8
  walk_at "run"
  refine w_never c g9 (by omega) m64 (by omega) (by omega) (by omega) (t4.mono (by decide)) (by omega) (q4.mono (by decide)) n0 n1 fun w ih10 w1 w2 f10 l10 g10 => ?_
  have gu10 : ih10[u]? = some (.lst ((toZ (nev m s t q n)).map IV.int)) := by rw [f10 u (by omega)]; exact gu9
  have s10 := s9.fx f10
  have F10 := F9.src f10 (by omega)
  clear f10 s9 F9 gu9 g9
  walk_at "run"
  refine wp_same g10 gu10 ?_
  walk_at "run"
  refine wp_tup (by simp) ?_
  generalize hP : k_cons _ _ _ _ = P'
  refine newN fun r2 ih11 r21 r22 l11 f11 g11 => ?_
  subst hP
  have gu11 : ih11[u]? = some (.lst ((toZ (nev m s t q n)).map IV.int)) := by rw [f11 u (by omega)]; exact gu10
  have gw11 : ih11[w]? = some (.lst ((toZ (nev m s t q n)).map IV.int)) := by rw [f11 w (by omega)]; exact g10
  have s11 := s10.fx f11
  have F11 := F10.src f11 (by omega)
  clear f11 s10 F10 gu10 g10
  walk_at "run"
  rw [q_callK]
  refine w_never c g11 (by omega) m64 (by omega) (by omega) (by omega) (t4.mono (by decide)) (by omega) (q4.mono (by decide)) n0 n1 fun z ih12 z1 z2 f12 l12 g12 => ?_
  have gu12 : ih12[u]? = some (.lst ((toZ (nev m s t q n)).map IV.int)) := by rw [f12 u (by omega)]; exact gu11
  have gw12 : ih12[w]? = some (.lst ((toZ (nev m s t q n)).map IV.int)) := by rw [f12 w (by omega)]; exact gw11
  have s12 := s11.fx f12
  have F12 := F11.src f12 (by omega)
  clear f12 s11 F11 gu11 gw11 g11
  walk_at "run"
  refine wp_same g12 gu12 ?_
  clear g12
  have lw : ((toZ (nev m s t q n)).map IV.int).length < 100000 := by
    unfold toZ nev nsL
    rw [List.length_map, List.length_map]
    exact Nat.lt_of_le_of_lt (List.length_filter_le _ _) (by rw [List.length_range]; omega)
  have uw : w ≠ u := by omega
  have wp' : w ≠ p := by omega
  have gu13 : (ih12.set w (.lst ((toZ (nev m s t q n)).map IV.int ++ [.non])))[u]? = some (.lst ((toZ (nev m s t q n)).map IV.int)) := by rw [g_sne uw]; exact gu12
  have s13 := s12.set (o := .lst ((toZ (nev m s t q n)).map IV.int ++ [.non])) wp'
  have F13 : Fr p ih (ih12.set w (.lst ((toZ (nev m s t q n)).map IV.int ++ [.non]))) := F12.set (by omega)
  have l13 : (ih12.set w (.lst ((toZ (nev m s t q n)).map IV.int ++ [.non]))).length = ih12.length := List.length_set
  clear s12 F12 gu12
  walk_at "run"
  generalize hI : ih12.set w (.lst ((toZ (nev m s t q n)).map IV.int ++ [.non])) = ih13 at *
  clear hI gw12 lw
  refine wp_tup (by simp) ?_
  generalize hP : k_cons _ _ _ _ = P'
  refine newN fun r3 ih14 r31 r32 l14 f14 g14 => ?_
  subst hP
  have gu14 : ih14[u]? = some (.lst ((toZ (nev m s t q n)).map IV.int)) := by rw [f14 u (by omega)]; exact gu13
  have s14 := s13.fx f14
  have F14 := F13.src f14 (by omega)
  clear f14 s13 F13 gu13
  walk_at "run"
  refine w_never c g14 (by omega) m64 (by omega) (by omega) (by omega) (t4.mono (by decide)) (by omega) (q4.mono (by decide)) n0 n1 fun y ih15 y1 y2 f15 l15 g15 => ?_
  have gu15 : ih15[u]? = some (.lst ((toZ (nev m s t q n)).map IV.int)) := by rw [f15 u (by omega)]; exact gu14
  have s15 := s14.fx f15
  have F15 := F14.src f15 (by omega)
  clear f15 s14 F14 gu14 g14
  walk_at "run"
  refine wp_same g15 gu15 ?_
  clear g15
  walk_at "run"
  refine w_far_right c s15 (by omega) m0 m1 hs t0 t1 q0 q1 n0 n1 gu15 (by omega) fun ih16 s16 f16 l16 => ?_
  have F16 := F15.trans f16 (by omega)
  clear f16 s15 F15 gu15
  walk_at "run"
  refine w_plain c s16 (by omega) q0 q1 n0 n1 fun ih17 s17 f17 l17 => ?_
  have kz := fun a4 a5 a6 a7 a8 a9 a10 => kk a4 a5 a6 a7 a8 a9 a10 ih17 (s17.mono (by omega)) (F16.trans f17 (by omega)) (by omega)
  clear kk s17 F16 f17 s16
  walk_at "run"
  exact Inv.mk (kz _ _ _ _ _ _ _)
theorem w_body_loop (c : Cs) {kk p : Nat} (hk : kk ≤ 3) {k : Int} {ih1 : IH} {S : SQ} {F : ES} (s1 : Src0 p 0 ih1) {a3 a4 a5 a6 a7 a8 a9 a10 : Option IV}
    (fin : ∀ a3 a4 a5 a6 a7 a8 a9 a10 ih', Src0 p (100 * kk) ih' → Fr p ih1 ih' → ih1.length ≤ ih'.length → S (.next [some (.ref 0), some (.int k), some (.ref p), a3, a4, a5, a6, a7, a8, a9, a10]) ih') :
    ks_for (g_nm 3) (lb_law_1 c) [some (.ref 0), some (.int k), some (.ref p), a3, a4, a5, a6, a7, a8, a9, a10] S F (.rng 0 1 kk) ih1 := by
  refine for_rng0 (fun i env ih' => (∃ a3 a4 a5 a6 a7 a8 a9 a10, env = [some (.ref 0), some (.int k), some (.ref p), a3, a4, a5, a6, a7, a8, a9, a10]) ∧ Src0 p (100 * i) ih' ∧ Fr p ih1 ih' ∧ ih1.length ≤ ih'.length) ⟨⟨_, _, _, _, _, _, _, _, rfl⟩, s1, Fr.refl, Nat.le_refl _⟩ (fun i env ih2 hi hP => ?_) fun env ih2 hP => ?_
  · obtain ⟨⟨a3, a4, a5, a6, a7, a8, a9, a10, ee⟩, s2, f2, l2⟩ := hP
    subst ee
    exact w_turn c s2 (by omega) _ fun b4 b5 b6 b7 b8 b9 b10 ih3 s3 f3 l3 => ⟨⟨_, _, _, _, _, _, _, _, rfl⟩, s3.mono (by omega), f2.trans f3 l2, by omega⟩
  · obtain ⟨⟨a3, a4, a5, a6, a7, a8, a9, a10, ee⟩, s2, f2, l2⟩ := hP
    subst ee
    exact fin _ _ _ _ _ _ _ _ _ s2 f2 l2
theorem w_body (c : Cs) {ns : List Int} {k : Nat} {ih : IH} {a2 a3 a4 a5 a6 a7 a8 a9 a10 : Option IV} {S : SQ} {F : ES} (h : Scr ns ih) (hb : ∀ z ∈ ns, ibits z ≤ 1048576) (hk : k ≤ 1000) (P : Env → IH → Prop)
    (kk : ∀ a2 a3 a4 a5 a6 a7 a8 a9 a10 ih', Scr ns ih' → P [some (.ref 0), some (.int (k : Int)), a2, a3, a4, a5, a6, a7, a8, a9, a10] ih') : ws (lb_law_2 c [some (.ref 0), some (.int (k : Int)), a2, a3, a4, a5, a6, a7, a8, a9, a10] ih) (kf P S) F := by
  have hl : 0 < ih.length := lt_of_get h
  have hs : ih[0]? = some (.ro (ns.map IV.int)) := h
  unfold lb_law_2
  walk_at "run"
  refine w_source c h hb (by omega) fun ih1 s1 f1 l1 => ?_
  obtain ⟨p, ep⟩ : ∃ p, ih.length = p := ⟨_, rfl⟩
  rw [ep] at s1 l1 hl ⊢
  have hs1 : ih1[0]? = some (.ro (ns.map IV.int)) := by rw [f1 0 (by omega)]; exact hs
  walk_at "run"
  refine ⟨smallI_mk (by omega) (by omega), ?_⟩
  refine w_body_loop c (Nat.le_refl 3) s1 fun b3 b4 b5 b6 b7 b8 b9 b10 ih2 s2 f2 l2 => ?_
  have hs2 : Scr ns ih2 := by
    unfold Scr
    rw [f2 0 (by omega) (by omega)]
    exact hs1
  have kz := kk (some (.ref p)) b3 b4 b5 b6 b7 b8 b9 b10 ih2 hs2
  clear kk
  walk_at "run"
  exact Inv.mk kz
theorem w_law (c : Cs) {ns : List Int} {ih : IH} {Q : PQ IV} {E : EQ} (h : Scr ns ih) (hb : ∀ z ∈ ns, ibits z ≤ 1048576) (hl : ns.length ≤ 63) (q : ∀ ih', Q (.bl true) ih') : wp (m_law c [.ref 0] ih) Q E := by
  have h' : ih[0]? = some (.ro (ns.map IV.int)) := h
  unfold m_law b_law
  walk_at "run"
  rw [List.length_map]
  obtain ⟨j, ej⟩ : ∃ j : Int, (if (if (ns.length : Int) < 6 then (ns.length : Int) else 6) > 1 then (if (ns.length : Int) < 6 then (ns.length : Int) else 6) else 1) = j := ⟨_, rfl⟩
  have hj : 1 ≤ j ∧ j ≤ 6 := by rw [← ej]; split <;> split <;> omega
  rw [ej]
  refine ⟨smallI_mk (by omega) (by omega), ?_⟩
  refine for_rng0 (fun i env ih' => (∃ a1 a2 a3 a4 a5 a6 a7 a8 a9 a10, env = [some (.ref 0), a1, a2, a3, a4, a5, a6, a7, a8, a9, a10]) ∧ Scr ns ih') ⟨⟨_, _, _, _, _, _, _, _, _, _, rfl⟩, h⟩ (fun i env ih' hi hP => ?_) fun env ih' hP => ?_
  · obtain ⟨⟨a1, a2, a3, a4, a5, a6, a7, a8, a9, a10, ee⟩, h2⟩ := hP
    subst ee
    exact w_body c h2 hb (by omega) _ fun b2 b3 b4 b5 b6 b7 b8 b9 b10 ih3 h3 => ⟨⟨_, _, _, _, _, _, _, _, _, _, rfl⟩, h3⟩
  · obtain ⟨⟨a1, a2, a3, a4, a5, a6, a7, a8, a9, a10, ee⟩, h2⟩ := hP
    subst ee
    walk_at "run"
    all_goals exact q _
theorem run_law (c : Cs) (ns : List Int) (h : ns.length ≤ 63) (hb : ∀ z ∈ ns, ibits z ≤ 1048576) : ∃ ih, m_law c [.ref 0] [.ro (ns.map IV.int)] = .ok (.bl true) ih := by
  obtain ⟨v, ih, e, rfl⟩ := (w_law c (ns := ns) (ih := [.ro (ns.map IV.int)]) (Q := fun v _ => v = .bl true) (E := E0) rfl hb h fun _ => rfl).out
  exact ⟨ih, e⟩
end L3
namespace L3
open PySem PySem.Spec PyProof.Rows L2

abbrev topS (i : Nat) : Stmt := PySem.Challenge.pw_timekernel_k56_threads_that_are_never_sa.main.body.getD i (.Pass ⟨0, 0, 0, 0⟩)
structure Txt (K : PySem.W.Frag) (mg : Str → Option Value) (c : Cs) : Prop where
  kk : c.K = K
  b_bool : mg "bool" = none
  b_enumerate : mg "enumerate" = none
  b_int : mg "int" = none
  b_isinstance : mg "isinstance" = none
  b_len : mg "len" = none
  b_list : mg "list" = none
  b_max : mg "max" = none
  b_min : mg "min" = none
  b_range : mg "range" = none
  b_tuple : mg "tuple" = none
  g_MOST_SHIFT : ∃ u, mg "MOST_SHIFT" = some u ∧ RelV ((.int 64) : V) u
  g_MOST_THREADS : ∃ u, mg "MOST_THREADS" = some u ∧ RelV ((.int 40) : V) u
  x_KernelError : ExcX K mg "KernelError" c.KernelError
  x_NoQuantum : ExcX K mg "NoQuantum" c.NoQuantum
  x_NoRate : ExcX K mg "NoRate" c.NoRate
  x_NoThread : ExcX K mg "NoThread" c.NoThread
  x_NoTick : ExcX K mg "NoTick" c.NoTick
section
variable {P : Program} {w : World} {K : PySem.W.Frag} {mg : Str → Option Value} {base : Heap} {c : Cs} {f : Addr} {fd : FuncData}
abbrev s__law_due : Stmt := topS 24
abbrev N__law_due : List Str := ["speed", "shift", "size", "turns", "heads", "found", "spent", "late", "at", "is_hidden"]
theorem S__law_due : FnScope N__law_due ["speed", "shift", "size", "turns", "heads"] (defScope s__law_due) := ⟨rfl, rfl, rfl, by decide +kernel, rfl, by decide +kernel, by decide +kernel⟩
theorem ok__law_due (T : Txt K mg c) (F : FunD K "_law_due" "_law_due" (defArgs s__law_due) (defBody s__law_due) (defScope s__law_due) [] [] f fd) (hm : mg "_law_due" = some (.ref f))  : Df P w K mg base 1 "_law_due" 5 [] (m_law_due c) := by
 obtain rfl := T.kk
 exact df0 (N := N__law_due) (mb := b_law_due c) F S__law_due hm (fun _ _ _ _ _ _ us hl => match us, hl with | [_, _, _, _, _], _ => rfl) fun cdv A outer s H E hr tk hp hu =>
 (lss_cons (ls_set (i := 5) S__law_due.nd rfl (Or.inl rfl) (lm_op op_mulA s_mulA (lm_lst (la_cons (lm_c (.bl true) pe_bl) la_nil)) (lm_var 4)))
 (lss_cons (ls_for hp rfl (li_rng2 rfl T.b_range (la_cons (lm_c (.int 1) pe_int) (la_cons (lm_op op_addA s_add (lm_op op_mulA s_mulA (lm_op op_mulA s_mulA (lm_var 3) (lm_var 4)) (lm_op op_shlW s_shl (lm_var 2) (lm_var 1))) (lm_c (.int 1) pe_int)) la_nil))) (pg_name (i := 6) S__law_due.nd rfl (Or.inl rfl)) (sg_nm 6)
 (lss_cons (ls_set (i := 7) S__law_due.nd rfl (Or.inl rfl) (lm_op op_fdivW s_fdiv (lm_op op_shr s_shr (lm_op op_mulA s_mulA (lm_var 6) (lm_var 0)) (lm_var 1)) (lm_var 2)))
 (lss_one (ls_if (lt_cmp op_gt s_gt (lm_var 7) (lm_op op_fdivW s_fdiv (lm_op op_shr s_shr (lm_op op_mulA s_mulA (lm_op op_sub s_sub (lm_var 6) (lm_c (.int 1) pe_int)) (lm_var 0)) (lm_var 1)) (lm_var 2)))
 (lss_one (ls_setL (lm_c (.bl false) pe_bl) (fun h1 h2 => pg_sub h1 h2 set_list) (lm_var 5) (lm_op op_mod s_mod (lm_callTy call_int1 s_int rfl T.b_int (by decide +kernel) (la_cons (lm_op op_fdivW s_fdiv (lm_var 6) (lm_var 3)) la_nil)) (lm_var 4))))
 lss_nil))))
 (lss_one (ls_ret (lm_lc (own := [("at", 8), ("is_hidden", 9)]) rfl S__law_due.nd (li_enm rfl T.b_enumerate (la_cons (lm_var 5) la_nil)) (blkOk_by (own := [("at", 8), ("is_hidden", 9)]) (N := N__law_due) (sc := defScope s__law_due) (by decide +kernel)) (sg_tup (sg_cons (sg_nm 8) (sg_cons (sg_nm 9) sg_nil))) (by decide) (fun _ _ _ _ _ => (pg_tup rfl (pgs_cons (pg_name (i := 8) S__law_due.nd rfl (Or.inl rfl)) (pgs_cons (pg_name (i := 9) S__law_due.nd rfl (Or.inl rfl)) pgs_nil)))) (fun _ _ _ _ _ => lts_one (lt_val (lm_var 9))) (fun _ _ _ _ _ => (lm_var 8)))))))
abbrev s__law_mixed : Stmt := topS 19
abbrev N__law_mixed : List Str := ["cell", "turn", "low", "wide"]
theorem S__law_mixed : FnScope N__law_mixed ["cell", "turn"] (defScope s__law_mixed) := ⟨rfl, rfl, rfl, by decide +kernel, rfl, by decide +kernel, by decide +kernel⟩
theorem ok__law_mixed (T : Txt K mg c) (F : FunD K "_law_mixed" "_law_mixed" (defArgs s__law_mixed) (defBody s__law_mixed) (defScope s__law_mixed) [] [] f fd) (hm : mg "_law_mixed" = some (.ref f))  : Df P w K mg base 1 "_law_mixed" 2 [] (m_law_mixed c) := by
 obtain rfl := T.kk
 exact df0 (N := N__law_mixed) (mb := b_law_mixed c) F S__law_mixed hm (fun _ _ _ _ _ _ us hl => match us, hl with | [_, _], _ => rfl) fun cdv A outer s H E hr tk hp hu =>
 (lss_cons (ls_set (i := 2) S__law_mixed.nd rfl (Or.inl rfl) (lm_op op_mod s_mod (lm_callTy call_int1 s_int rfl T.b_int (by decide +kernel) (la_cons (lm_op op_mulA s_mulA (lm_op op_addA s_add (lm_op op_addA s_add (lm_op op_mod s_mod (lm_callTy call_int1 s_int rfl T.b_int (by decide +kernel) (la_cons (lm_var 0) la_nil)) (lm_c (.int 2147483647) pe_int)) (lm_op op_mulA s_mulA (lm_c (.int 48611) pe_int) (lm_var 1))) (lm_c (.int 9) pe_int)) (lm_c (.int 16807) pe_int)) la_nil)) (lm_c (.int 2147483629) pe_int)))
 (lss_cons (ls_set (i := 3) S__law_mixed.nd rfl (Or.inl rfl) (lm_op op_addA s_add (lm_var 2) (lm_op op_mod s_mod (lm_callTy call_int1 s_int rfl T.b_int (by decide +kernel) (la_cons (lm_op op_fdivW s_fdiv (lm_var 0) (lm_c (.int 2147483647) pe_int)) la_nil)) (lm_c (.int 99991) pe_int))))
 (lss_cons (ls_set (i := 2) S__law_mixed.nd rfl (Or.inl rfl) (lm_op op_mod s_mod (lm_callTy call_int1 s_int rfl T.b_int (by decide +kernel) (la_cons (lm_op op_mulA s_mulA (lm_var 3) (lm_op op_addA s_add (lm_op op_addA s_add (lm_op op_fdivW s_fdiv (lm_var 2) (lm_c (.int 1013) pe_int)) (lm_op op_mulA s_mulA (lm_c (.int 71) pe_int) (lm_var 1))) (lm_c (.int 5) pe_int))) la_nil)) (lm_c (.int 2147483587) pe_int)))
 (lss_one (ls_ret (lm_op op_fdivW s_fdiv (lm_op op_mod s_mod (lm_callTy call_int1 s_int rfl T.b_int (by decide +kernel) (la_cons (lm_op op_mulA s_mulA (lm_var 2) (lm_op op_addA s_add (lm_op op_fdivW s_fdiv (lm_var 2) (lm_c (.int 2003) pe_int)) (lm_c (.int 90001) pe_int))) la_nil)) (lm_c (.int 2147483579) pe_int)) (lm_c (.int 7) pe_int)))))))
abbrev s__law_next : Stmt := topS 21
abbrev N__law_next : List Str := ["source", "room", "found"]
theorem S__law_next : FnScope N__law_next ["source", "room"] (defScope s__law_next) := ⟨rfl, rfl, rfl, by decide +kernel, rfl, by decide +kernel, by decide +kernel⟩
theorem ok__law_next (T : Txt K mg c) (F : FunD K "_law_next" "_law_next" (defArgs s__law_next) (defBody s__law_next) (defScope s__law_next) [] [] f fd) (hm : mg "_law_next" = some (.ref f)) (D__law_mixed : Df P w K mg base 1 "_law_mixed" 2 [] (m_law_mixed c)) : Df P w K mg base 2 "_law_next" 2 [] (m_law_next c) := by
 obtain rfl := T.kk
 exact df0 (N := N__law_next) (mb := b_law_next c) F S__law_next hm (fun _ _ _ _ _ _ us hl => match us, hl with | [_, _], _ => rfl) fun cdv A outer s H E hr tk hp hu =>
 (lss_cons (ls_if (lt_cmp op_gt s_gt (lm_ix ix_seq s_ix (lm_var 0) (lm_c (.int 0) pe_int)) (lm_c (.int 0) pe_int))
 (lss_cons (ls_set (i := 2) S__law_next.nd rfl (Or.inl rfl) (lm_op op_mod s_mod (lm_callTy call_int1 s_int rfl T.b_int (by decide +kernel) (la_cons (lm_ix ix_seq s_ix (lm_var 0) (lm_c (.int 0) pe_int)) la_nil)) (lm_var 1)))
 (lss_cons (ls_setL (lm_op op_fdivW s_fdiv (lm_ix ix_seq s_ix (lm_var 0) (lm_c (.int 0) pe_int)) (lm_var 1)) (fun h1 h2 => pg_sub h1 h2 set_list) (lm_var 0) (lm_c (.int 0) pe_int))
 (lss_one (ls_ret (lm_var 2)))))
 lss_nil)
 (lss_cons (ls_setL (lm_op op_addA s_add (lm_ix ix_seq s_ix (lm_var 0) (lm_c (.int 2) pe_int)) (lm_c (.int 1) pe_int)) (fun h1 h2 => pg_sub h1 h2 set_list) (lm_var 0) (lm_c (.int 2) pe_int))
 (lss_one (ls_ret (lm_op op_mod s_mod (lm_callTy call_int1 s_int rfl T.b_int (by decide +kernel) (la_cons (lm_call (x := "_law_mixed") (dvs := []) D__law_mixed 0 (by decide) (hr.mono (by decide)) rfl tk (la_cons (lm_ix ix_seq s_ix (lm_var 0) (lm_c (.int 1) pe_int)) (la_cons (lm_ix ix_seq s_ix (lm_var 0) (lm_c (.int 2) pe_int)) la_nil))) la_nil)) (lm_var 1))))))
abbrev s__law_great : Stmt := topS 23
abbrev N__law_great : List Str := ["source", "bound", "found", "reach"]
theorem S__law_great : FnScope N__law_great ["source", "bound"] (defScope s__law_great) := ⟨rfl, rfl, rfl, by decide +kernel, rfl, by decide +kernel, by decide +kernel⟩
theorem ok__law_great (T : Txt K mg c) (F : FunD K "_law_great" "_law_great" (defArgs s__law_great) (defBody s__law_great) (defScope s__law_great) [] [] f fd) (hm : mg "_law_great" = some (.ref f)) (D__law_next : Df P w K mg base 2 "_law_next" 2 [] (m_law_next c)) : Df P w K mg base 3 "_law_great" 2 [] (m_law_great c) := by
 obtain rfl := T.kk
 exact df0 (N := N__law_great) (mb := b_law_great c) F S__law_great hm (fun _ _ _ _ _ _ us hl => match us, hl with | [_, _], _ => rfl) fun cdv A outer s H E hr tk hp hu =>
 (lss_cons (ls_asg (lm_tup (la_cons (lm_c (.int 0) pe_int) (la_cons (lm_c (.int 1) pe_int) la_nil))) (pg_tup rfl (pgs_cons (pg_name (i := 2) S__law_great.nd rfl (Or.inl rfl)) (pgs_cons (pg_name (i := 3) S__law_great.nd rfl (Or.inl rfl)) pgs_nil))) (sg_tup (sg_cons (sg_nm 2) (sg_cons (sg_nm 3) sg_nil))))
 (lss_cons (ls_while 1000000 hp (lt_cmp op_lt s_lt (lm_var 3) (lm_var 1))
 (lss_one (ls_par (i := 2) (j := 3) (fun h => ps_par (i := 2) (j := 3) rfl S__law_great.nd rfl rfl (by decide) rfl rfl h rfl) (la_cons (lm_op op_addA s_add (lm_op op_mulA s_mulA (lm_var 2) (lm_op op_pow s_pow (lm_c (.int 10) pe_int) (lm_c (.int 8) pe_int))) (lm_call (x := "_law_next") (dvs := []) D__law_next 0 (by decide) (hr.mono (by decide)) rfl tk (la_cons (lm_var 0) (la_cons (lm_op op_pow s_pow (lm_c (.int 10) pe_int) (lm_c (.int 8) pe_int)) la_nil)))) (la_cons (lm_op op_mulA s_mulA (lm_var 3) (lm_op op_pow s_pow (lm_c (.int 10) pe_int) (lm_c (.int 8) pe_int))) la_nil)))))
 (lss_one (ls_ret (lm_op op_mod s_mod (lm_callTy call_int1 s_int rfl T.b_int (by decide +kernel) (la_cons (lm_var 2) la_nil)) (lm_var 1))))))
abbrev s_is_whole : Stmt := topS 7
abbrev N_is_whole : List Str := ["thing", "least"]
theorem S_is_whole : FnScope N_is_whole ["thing", "least"] (defScope s_is_whole) := ⟨rfl, rfl, rfl, by decide +kernel, rfl, by decide +kernel, by decide +kernel⟩
theorem ok_is_whole (T : Txt K mg c) (F : FunD K "is_whole" "is_whole" (defArgs s_is_whole) (defBody s_is_whole) (defScope s_is_whole) [V.non] [] f fd) (hm : mg "is_whole" = some (.ref f))  : Df P w K mg base 1 "is_whole" 2 [.non] (m_is_whole c) := by
 obtain rfl := T.kk
 exact dfD (N := N_is_whole) (mb := b_is_whole c) F S_is_whole hm rfl rfl rfl (fun j hj => match j, hj with | 0, _ => F.binds1 1 0 (by decide) rfl (fun _ _ _ _ _ _ _ us its h1 h2 => match us, its, h1, h2 with | [_], [_], _, _ => ⟨_, rfl, rfl⟩) | 1, _ => F.binds1 2 1 (by decide) rfl (fun _ _ _ _ _ _ _ us its h1 h2 => match us, its, h1, h2 with | [_, _], [_], _, _ => ⟨_, rfl, rfl⟩)) fun cdv A outer s H E hr tk hp hu =>
 (lss_one (ls_ret (lm_and (lm_callB call_isi s_isi rfl T.b_isinstance (by decide +kernel) (la_cons (lm_var 0) (la_cons (lm_c (.ty "int") (pe_bltn (v := .ty "int") rfl T.b_int (by decide +kernel) rfl)) la_nil))) (lm_and (lm_not (lm_callB call_isi s_isi rfl T.b_isinstance (by decide +kernel) (la_cons (lm_var 0) (la_cons (lm_c (.ty "bool") (pe_bltn (v := .ty "bool") rfl T.b_bool (by decide +kernel) rfl)) la_nil)))) (lm_one (lm_or (lm_cmp op_isN s_isN (lm_var 1) (lm_c .non pe_non)) (lm_one (lm_cmp op_ge s_ge (lm_var 0) (lm_var 1)))))))))
abbrev s_power : Stmt := topS 8
abbrev N_power : List Str := ["number"]
theorem S_power : FnScope N_power ["number"] (defScope s_power) := ⟨rfl, rfl, rfl, by decide +kernel, rfl, by decide +kernel, by decide +kernel⟩
theorem ok_power (T : Txt K mg c) (F : FunD K "power" "power" (defArgs s_power) (defBody s_power) (defScope s_power) [] [] f fd) (hm : mg "power" = some (.ref f))  : Df P w K mg base 1 "power" 1 [] (m_power c) := by
 obtain rfl := T.kk
 exact df0 (N := N_power) (mb := b_power c) F S_power hm (fun _ _ _ _ _ _ us hl => match us, hl with | [_], _ => rfl) fun cdv A outer s H E hr tk hp hu =>
 (lss_one (ls_ret (lm_op op_shlW s_shl (lm_c (.int 1) pe_int) (lm_var 0))))
abbrev s_is_mult : Stmt := topS 12
abbrev N_is_mult : List Str := ["thing"]
theorem S_is_mult : FnScope N_is_mult ["thing"] (defScope s_is_mult) := ⟨rfl, rfl, rfl, by decide +kernel, rfl, by decide +kernel, by decide +kernel⟩
theorem ok_is_mult (T : Txt K mg c) (F : FunD K "is_mult" "is_mult" (defArgs s_is_mult) (defBody s_is_mult) (defScope s_is_mult) [] [] f fd) (hm : mg "is_mult" = some (.ref f)) (D_is_whole : Df P w K mg base 1 "is_whole" 2 [.non] (m_is_whole c)) (D_power : Df P w K mg base 1 "power" 1 [] (m_power c)) : Df P w K mg base 2 "is_mult" 1 [] (m_is_mult c) := by
 obtain rfl := T.kk
 exact df0 (N := N_is_mult) (mb := b_is_mult c) F S_is_mult hm (fun _ _ _ _ _ _ us hl => match us, hl with | [_], _ => rfl) fun cdv A outer s H E hr tk hp hu =>
 (lss_one (ls_ret (lm_and (lm_call (x := "is_whole") (dvs := [.non]) D_is_whole 1 (by decide) (hr.mono (by decide)) rfl tk (la_cons (lm_var 0) (la_cons (lm_c (.int 1) pe_int) la_nil))) (lm_one (lm_cmp op_lt s_lt (lm_var 0) (lm_call (x := "power") (dvs := []) D_power 0 (by decide) (hr.mono (by decide)) rfl tk (la_cons (lm_c (.int 64) pe_int) la_nil)))))))
abbrev s_is_shift : Stmt := topS 11
abbrev N_is_shift : List Str := ["thing"]
theorem S_is_shift : FnScope N_is_shift ["thing"] (defScope s_is_shift) := ⟨rfl, rfl, rfl, by decide +kernel, rfl, by decide +kernel, by decide +kernel⟩
theorem ok_is_shift (T : Txt K mg c) (F : FunD K "is_shift" "is_shift" (defArgs s_is_shift) (defBody s_is_shift) (defScope s_is_shift) [] [] f fd) (hm : mg "is_shift" = some (.ref f)) (D_is_whole : Df P w K mg base 1 "is_whole" 2 [.non] (m_is_whole c)) : Df P w K mg base 2 "is_shift" 1 [] (m_is_shift c) := by
 obtain rfl := T.kk
 exact df0 (N := N_is_shift) (mb := b_is_shift c) F S_is_shift hm (fun _ _ _ _ _ _ us hl => match us, hl with | [_], _ => rfl) fun cdv A outer s H E hr tk hp hu =>
 (lss_one (ls_ret (lm_and (lm_call (x := "is_whole") (dvs := [.non]) D_is_whole 1 (by decide) (hr.mono (by decide)) rfl tk (la_cons (lm_var 0) (la_cons (lm_c (.int 0) pe_int) la_nil))) (lm_one (lm_cmp op_le s_le (lm_var 0) (lm_c (.int 64) (lg_glob T.g_MOST_SHIFT rfl)))))))
abbrev s_check_rate : Stmt := topS 13
abbrev N_check_rate : List Str := ["rate"]
theorem S_check_rate : FnScope N_check_rate ["rate"] (defScope s_check_rate) := ⟨rfl, rfl, rfl, by decide +kernel, rfl, by decide +kernel, by decide +kernel⟩
theorem ok_check_rate (T : Txt K mg c) (F : FunD K "check_rate" "check_rate" (defArgs s_check_rate) (defBody s_check_rate) (defScope s_check_rate) [] [] f fd) (hm : mg "check_rate" = some (.ref f)) (D_is_mult : Df P w K mg base 2 "is_mult" 1 [] (m_is_mult c)) (D_is_shift : Df P w K mg base 2 "is_shift" 1 [] (m_is_shift c)) : Df P w K mg base 3 "check_rate" 1 [] (m_check_rate c) := by
 obtain rfl := T.kk
 exact df0 (N := N_check_rate) (mb := b_check_rate c) F S_check_rate hm (fun _ _ _ _ _ _ us hl => match us, hl with | [_], _ => rfl) fun cdv A outer s H E hr tk hp hu =>
 (lss_one (ls_if (PW.pt (lw_or (lt_not (lt_val (lm_callB call_isi s_isi rfl T.b_isinstance (by decide +kernel) (la_cons (lm_var 0) (la_cons (lm_c (.ty "tuple") (pe_bltn (v := .ty "tuple") rfl T.b_tuple (by decide +kernel) rfl)) la_nil))))) (lw_or (lt_cmp (op_neD hu) s_ne (lm_callB call_lenA s_len rfl T.b_len (by decide +kernel) (la_cons (lm_var 0) la_nil)) (lm_c (.int 2) pe_int)) (lw_or (lt_not (lt_val (lm_call (x := "is_mult") (dvs := []) D_is_mult 0 (by decide) (hr.mono (by decide)) rfl tk (la_cons (lm_ix ix_seq s_ix (lm_var 0) (lm_c (.int 0) pe_int)) la_nil)))) (lw_or1 (lt_not (lt_val (lm_call (x := "is_shift") (dvs := []) D_is_shift 0 (by decide) (hr.mono (by decide)) rfl tk (la_cons (lm_ix ix_seq s_ix (lm_var 0) (lm_c (.int 1) pe_int)) la_nil)))))))))
 (lss_one (ls_raise rfl tk PySem.F.excBase_ValueError T.x_NoRate.q T.x_NoRate.g T.x_NoRate.k (raises_own T.x_NoRate.b T.x_NoRate.t) rfl))
 lss_nil))
abbrev s_common_divisor : Stmt := topS 16
abbrev N_common_divisor : List Str := ["one", "other"]
theorem S_common_divisor : FnScope N_common_divisor ["one", "other"] (defScope s_common_divisor) := ⟨rfl, rfl, rfl, by decide +kernel, rfl, by decide +kernel, by decide +kernel⟩
theorem ok_common_divisor (T : Txt K mg c) (F : FunD K "common_divisor" "common_divisor" (defArgs s_common_divisor) (defBody s_common_divisor) (defScope s_common_divisor) [] [] f fd) (hm : mg "common_divisor" = some (.ref f))  : Df P w K mg base 1 "common_divisor" 2 [] (m_common_divisor c) := by
 obtain rfl := T.kk
 exact df0 (N := N_common_divisor) (mb := b_common_divisor c) F S_common_divisor hm (fun _ _ _ _ _ _ us hl => match us, hl with | [_, _], _ => rfl) fun cdv A outer s H E hr tk hp hu =>
 (lss_cons (ls_while 1000000 hp (lt_cmp (op_neD hu) s_ne (lm_var 1) (lm_c (.int 0) pe_int))
 (lss_one (ls_par (i := 0) (j := 1) (fun h => ps_par (i := 0) (j := 1) rfl S_common_divisor.nd rfl rfl (by decide) rfl rfl h rfl) (la_cons (lm_var 1) (la_cons (lm_op op_mod s_mod (lm_var 0) (lm_var 1)) la_nil)))))
 (lss_one (ls_ret (lm_var 0))))
abbrev s_never_sampled : Stmt := topS 17
abbrev N_never_sampled : List Str := ["rate", "tick", "quantum", "many", "measure", "found", "index", "low", "high"]
theorem S_never_sampled : FnScope N_never_sampled ["rate", "tick", "quantum", "many"] (defScope s_never_sampled) := ⟨rfl, rfl, rfl, by decide +kernel, rfl, by decide +kernel, by decide +kernel⟩
theorem ok_never_sampled (T : Txt K mg c) (F : FunD K "never_sampled" "never_sampled" (defArgs s_never_sampled) (defBody s_never_sampled) (defScope s_never_sampled) [] [] f fd) (hm : mg "never_sampled" = some (.ref f)) (D_check_rate : Df P w K mg base 3 "check_rate" 1 [] (m_check_rate c)) (D_common_divisor : Df P w K mg base 1 "common_divisor" 2 [] (m_common_divisor c)) (D_is_whole : Df P w K mg base 1 "is_whole" 2 [.non] (m_is_whole c)) : Df P w K mg base 4 "never_sampled" 4 [] (m_never_sampled c) := by
 obtain rfl := T.kk
 exact df0 (N := N_never_sampled) (mb := b_never_sampled c) F S_never_sampled hm (fun _ _ _ _ _ _ us hl => match us, hl with | [_, _, _, _], _ => rfl) fun cdv A outer s H E hr tk hp hu =>
 (lss_cons (ls_expr (lm_call (x := "check_rate") (dvs := []) D_check_rate 0 (by decide) (hr.mono (by decide)) rfl tk (la_cons (lm_var 0) la_nil)))
 (lss_cons (ls_if (lt_not (lt_val (lm_call (x := "is_whole") (dvs := [.non]) D_is_whole 1 (by decide) (hr.mono (by decide)) rfl tk (la_cons (lm_var 1) (la_cons (lm_c (.int 1) pe_int) la_nil)))))
 (lss_one (ls_raise rfl tk PySem.F.excBase_ValueError T.x_NoTick.q T.x_NoTick.g T.x_NoTick.k (raises_own T.x_NoTick.b T.x_NoTick.t) rfl))
 lss_nil)
 (lss_cons (ls_if (lt_not (lt_val (lm_call (x := "is_whole") (dvs := [.non]) D_is_whole 1 (by decide) (hr.mono (by decide)) rfl tk (la_cons (lm_var 2) (la_cons (lm_c (.int 1) pe_int) la_nil)))))
 (lss_one (ls_raise rfl tk PySem.F.excBase_ValueError T.x_NoQuantum.q T.x_NoQuantum.g T.x_NoQuantum.k (raises_own T.x_NoQuantum.b T.x_NoQuantum.t) rfl))
 lss_nil)
 (lss_cons (ls_if (PW.pt (lw_or (lt_not (lt_val (lm_call (x := "is_whole") (dvs := [.non]) D_is_whole 1 (by decide) (hr.mono (by decide)) rfl tk (la_cons (lm_var 3) (la_cons (lm_c (.int 1) pe_int) la_nil))))) (lw_or1 (lt_cmp op_gt s_gt (lm_var 3) (lm_c (.int 40) (lg_glob T.g_MOST_THREADS rfl))))))
 (lss_one (ls_raise rfl tk PySem.F.excBase_ValueError T.x_NoThread.q T.x_NoThread.g T.x_NoThread.k (raises_own T.x_NoThread.b T.x_NoThread.t) rfl))
 lss_nil)
 (lss_cons (ls_set (i := 4) S_never_sampled.nd rfl (Or.inl rfl) (lm_call (x := "common_divisor") (dvs := []) D_common_divisor 0 (by decide) (hr.mono (by decide)) rfl tk (la_cons (lm_op op_shlW s_shl (lm_var 1) (lm_ix ix_seq s_ix (lm_var 0) (lm_c (.int 1) pe_int))) (la_cons (lm_op op_mulA s_mulA (lm_op op_mulA s_mulA (lm_var 2) (lm_var 3)) (lm_ix ix_seq s_ix (lm_var 0) (lm_c (.int 0) pe_int))) la_nil))))
 (lss_cons (ls_set (i := 5) S_never_sampled.nd rfl (Or.inl rfl) (lm_lst la_nil))
 (lss_cons (ls_for hp rfl (li_rng1 rfl T.b_range (la_cons (lm_var 3) la_nil)) (pg_name (i := 6) S_never_sampled.nd rfl (Or.inl rfl)) (sg_nm 6)
 (lss_cons (ls_set (i := 7) S_never_sampled.nd rfl (Or.inl rfl) (lm_op op_mulA s_mulA (lm_op op_sub s_sub (lm_op op_mulA s_mulA (lm_var 6) (lm_var 2)) (lm_c (.int 1) pe_int)) (lm_ix ix_seq s_ix (lm_var 0) (lm_c (.int 0) pe_int))))
 (lss_cons (ls_set (i := 8) S_never_sampled.nd rfl (Or.inl rfl) (lm_op op_mulA s_mulA (lm_op op_sub s_sub (lm_op op_mulA s_mulA (lm_op op_addA s_add (lm_var 6) (lm_c (.int 1) pe_int)) (lm_var 2)) (lm_c (.int 1) pe_int)) (lm_ix ix_seq s_ix (lm_var 0) (lm_c (.int 0) pe_int))))
 (lss_one (ls_if (lt_cmp (op_eqD hu) s_eq (lm_op op_fdivW s_fdiv (lm_var 8) (lm_var 4)) (lm_op op_fdivW s_fdiv (lm_var 7) (lm_var 4)))
 (lss_one (ls_expr (lm_mL PySem.F.slot_list_append PySem.F.type_list_append mt_append s_append (lm_var 5) (la_cons (lm_var 6) la_nil))))
 lss_nil)))))
 (lss_one (ls_ret (lm_var 5))))))))))
theorem okK_never_sampled (T : Txt K mg c) (F : FunD K "never_sampled" "never_sampled" (defArgs s_never_sampled) (defBody s_never_sampled) (defScope s_never_sampled) [] [] f fd) (hm : mg "never_sampled" = some (.ref f)) (D_check_rate : Df P w K mg base 3 "check_rate" 1 [] (m_check_rate c)) (D_common_divisor : Df P w K mg base 1 "common_divisor" 2 [] (m_common_divisor c)) (D_is_whole : Df P w K mg base 1 "is_whole" 2 [.non] (m_is_whole c)) : DfK P w K mg base 4 "never_sampled" 4 ["many", "quantum", "tick", "rate"] rev4 (m_never_sampled c) := by
 obtain rfl := T.kk
 exact dfK4 (N := N_never_sampled) (mb := b_never_sampled c) F S_never_sampled hm rfl (fun _ _ _ _ _ _ _ _ _ _ => rfl) fun cdv A outer s H E hr tk hp hu =>
 (lss_cons (ls_expr (lm_call (x := "check_rate") (dvs := []) D_check_rate 0 (by decide) (hr.mono (by decide)) rfl tk (la_cons (lm_var 0) la_nil)))
 (lss_cons (ls_if (lt_not (lt_val (lm_call (x := "is_whole") (dvs := [.non]) D_is_whole 1 (by decide) (hr.mono (by decide)) rfl tk (la_cons (lm_var 1) (la_cons (lm_c (.int 1) pe_int) la_nil)))))
 (lss_one (ls_raise rfl tk PySem.F.excBase_ValueError T.x_NoTick.q T.x_NoTick.g T.x_NoTick.k (raises_own T.x_NoTick.b T.x_NoTick.t) rfl))
 lss_nil)
 (lss_cons (ls_if (lt_not (lt_val (lm_call (x := "is_whole") (dvs := [.non]) D_is_whole 1 (by decide) (hr.mono (by decide)) rfl tk (la_cons (lm_var 2) (la_cons (lm_c (.int 1) pe_int) la_nil)))))
 (lss_one (ls_raise rfl tk PySem.F.excBase_ValueError T.x_NoQuantum.q T.x_NoQuantum.g T.x_NoQuantum.k (raises_own T.x_NoQuantum.b T.x_NoQuantum.t) rfl))
 lss_nil)
 (lss_cons (ls_if (PW.pt (lw_or (lt_not (lt_val (lm_call (x := "is_whole") (dvs := [.non]) D_is_whole 1 (by decide) (hr.mono (by decide)) rfl tk (la_cons (lm_var 3) (la_cons (lm_c (.int 1) pe_int) la_nil))))) (lw_or1 (lt_cmp op_gt s_gt (lm_var 3) (lm_c (.int 40) (lg_glob T.g_MOST_THREADS rfl))))))
 (lss_one (ls_raise rfl tk PySem.F.excBase_ValueError T.x_NoThread.q T.x_NoThread.g T.x_NoThread.k (raises_own T.x_NoThread.b T.x_NoThread.t) rfl))
 lss_nil)
 (lss_cons (ls_set (i := 4) S_never_sampled.nd rfl (Or.inl rfl) (lm_call (x := "common_divisor") (dvs := []) D_common_divisor 0 (by decide) (hr.mono (by decide)) rfl tk (la_cons (lm_op op_shlW s_shl (lm_var 1) (lm_ix ix_seq s_ix (lm_var 0) (lm_c (.int 1) pe_int))) (la_cons (lm_op op_mulA s_mulA (lm_op op_mulA s_mulA (lm_var 2) (lm_var 3)) (lm_ix ix_seq s_ix (lm_var 0) (lm_c (.int 0) pe_int))) la_nil))))
 (lss_cons (ls_set (i := 5) S_never_sampled.nd rfl (Or.inl rfl) (lm_lst la_nil))
 (lss_cons (ls_for hp rfl (li_rng1 rfl T.b_range (la_cons (lm_var 3) la_nil)) (pg_name (i := 6) S_never_sampled.nd rfl (Or.inl rfl)) (sg_nm 6)
 (lss_cons (ls_set (i := 7) S_never_sampled.nd rfl (Or.inl rfl) (lm_op op_mulA s_mulA (lm_op op_sub s_sub (lm_op op_mulA s_mulA (lm_var 6) (lm_var 2)) (lm_c (.int 1) pe_int)) (lm_ix ix_seq s_ix (lm_var 0) (lm_c (.int 0) pe_int))))
 (lss_cons (ls_set (i := 8) S_never_sampled.nd rfl (Or.inl rfl) (lm_op op_mulA s_mulA (lm_op op_sub s_sub (lm_op op_mulA s_mulA (lm_op op_addA s_add (lm_var 6) (lm_c (.int 1) pe_int)) (lm_var 2)) (lm_c (.int 1) pe_int)) (lm_ix ix_seq s_ix (lm_var 0) (lm_c (.int 0) pe_int))))
 (lss_one (ls_if (lt_cmp (op_eqD hu) s_eq (lm_op op_fdivW s_fdiv (lm_var 8) (lm_var 4)) (lm_op op_fdivW s_fdiv (lm_var 7) (lm_var 4)))
 (lss_one (ls_expr (lm_mL PySem.F.slot_list_append PySem.F.type_list_append mt_append s_append (lm_var 5) (la_cons (lm_var 6) la_nil))))
 lss_nil)))))
 (lss_one (ls_ret (lm_var 5))))))))))
abbrev s__law_far_right : Stmt := topS 25
abbrev N__law_far_right : List Str := ["source", "told", "speed", "shift", "size", "turns", "heads", "more", "double", "plain"]
theorem S__law_far_right : FnScope N__law_far_right ["source", "told", "speed", "shift", "size", "turns", "heads"] (defScope s__law_far_right) := ⟨rfl, rfl, rfl, by decide +kernel, rfl, by decide +kernel, by decide +kernel⟩
theorem ok__law_far_right (T : Txt K mg c) (F : FunD K "_law_far_right" "_law_far_right" (defArgs s__law_far_right) (defBody s__law_far_right) (defScope s__law_far_right) [] [] f fd) (hm : mg "_law_far_right" = some (.ref f)) (D__law_due : Df P w K mg base 1 "_law_due" 5 [] (m_law_due c)) (D__law_great : Df P w K mg base 3 "_law_great" 2 [] (m_law_great c)) (D__law_next : Df P w K mg base 2 "_law_next" 2 [] (m_law_next c)) (D_never_sampled : Df P w K mg base 4 "never_sampled" 4 [] (m_never_sampled c)) : Df P w K mg base 5 "_law_far_right" 7 [] (m_law_far_right c) := by
 obtain rfl := T.kk
 exact df0 (N := N__law_far_right) (mb := b_law_far_right c) F S__law_far_right hm (fun _ _ _ _ _ _ us hl => match us, hl with | [_, _, _, _, _, _, _], _ => rfl) fun cdv A outer s H E hr tk hp hu =>
 (lss_cons (ls_set (i := 7) S__law_far_right.nd rfl (Or.inl rfl) (lm_op op_addA s_add (lm_c (.int 1) pe_int) (lm_call (x := "_law_great") (dvs := []) D__law_great 0 (by decide) (hr.mono (by decide)) rfl tk (la_cons (lm_var 0) (la_cons (lm_op op_pow s_pow (lm_c (.int 10) pe_int) (lm_c (.int 16) pe_int)) la_nil)))))
 (lss_cons (ls_if (lt_cmp (op_neD hu) s_ne (lm_call (x := "never_sampled") (dvs := []) D_never_sampled 0 (by decide) (hr.mono (by decide)) rfl tk (la_cons (lm_tup (la_cons (lm_op op_mulA s_mulA (lm_var 2) (lm_var 7)) (la_cons (lm_var 3) la_nil))) (la_cons (lm_op op_mulA s_mulA (lm_var 4) (lm_var 7)) (la_cons (lm_var 5) (la_cons (lm_var 6) la_nil))))) (lm_var 1))
 (lss_one (ls_ret (lm_c (.bl false) pe_bl)))
 lss_nil)
 (lss_cons (ls_set (i := 8) S__law_far_right.nd rfl (Or.inl rfl) (lm_call (x := "_law_next") (dvs := []) D__law_next 0 (by decide) (hr.mono (by decide)) rfl tk (la_cons (lm_var 0) (la_cons (lm_c (.int 50) pe_int) la_nil))))
 (lss_cons (ls_if (lt_cmp (op_neD hu) s_ne (lm_call (x := "never_sampled") (dvs := []) D_never_sampled 0 (by decide) (hr.mono (by decide)) rfl tk (la_cons (lm_tup (la_cons (lm_op op_shlW s_shl (lm_var 2) (lm_var 8)) (la_cons (lm_op op_addA s_add (lm_var 3) (lm_var 8)) la_nil))) (la_cons (lm_var 4) (la_cons (lm_var 5) (la_cons (lm_var 6) la_nil))))) (lm_var 1))
 (lss_one (ls_ret (lm_c (.bl false) pe_bl)))
 lss_nil)
 (lss_cons (ls_par (i := 9) (j := 7) (fun h => ps_par (i := 9) (j := 7) rfl S__law_far_right.nd rfl rfl (by decide) rfl rfl h rfl) (la_cons (lm_call (x := "never_sampled") (dvs := []) D_never_sampled 0 (by decide) (hr.mono (by decide)) rfl tk (la_cons (lm_tup (la_cons (lm_c (.int 1) pe_int) (la_cons (lm_c (.int 0) pe_int) la_nil))) (la_cons (lm_var 4) (la_cons (lm_var 5) (la_cons (lm_var 6) la_nil))))) (la_cons (lm_op op_addA s_add (lm_c (.int 1) pe_int) (lm_call (x := "_law_great") (dvs := []) D__law_great 0 (by decide) (hr.mono (by decide)) rfl tk (la_cons (lm_var 0) (la_cons (lm_op op_pow s_pow (lm_c (.int 10) pe_int) (lm_c (.int 45) pe_int)) la_nil)))) la_nil)))
 (lss_cons (ls_if (lt_cmp (op_neD hu) s_ne (lm_call (x := "never_sampled") (dvs := []) D_never_sampled 0 (by decide) (hr.mono (by decide)) rfl tk (la_cons (lm_tup (la_cons (lm_c (.int 1) pe_int) (la_cons (lm_c (.int 0) pe_int) la_nil))) (la_cons (lm_op op_mulA s_mulA (lm_var 4) (lm_var 7)) (la_cons (lm_op op_mulA s_mulA (lm_var 5) (lm_var 7)) (la_cons (lm_var 6) la_nil))))) (lm_var 9))
 (lss_one (ls_ret (lm_c (.bl false) pe_bl)))
 lss_nil)
 (lss_cons (ls_if (PW.pt (lw_and (lt_cmp op_lt s_lt (lm_var 7) (lm_op op_pow s_pow (lm_c (.int 2) pe_int) (lm_c (.int 64) pe_int))) (lw_and1 (lt_cmp (op_neD hu) s_ne (lm_call (x := "never_sampled") (dvs := []) D_never_sampled 0 (by decide) (hr.mono (by decide)) rfl tk (la_cons (lm_tup (la_cons (lm_var 7) (la_cons (lm_c (.int 0) pe_int) la_nil))) (la_cons (lm_op op_mulA s_mulA (lm_var 7) (lm_var 4)) (la_cons (lm_var 5) (la_cons (lm_var 6) la_nil))))) (lm_var 9)))))
 (lss_one (ls_ret (lm_c (.bl false) pe_bl)))
 lss_nil)
 (lss_one (ls_ret (lm_cmp (op_eqD hu) s_eq (lm_var 9) (lm_call (x := "_law_due") (dvs := []) D__law_due 0 (by decide) (hr.mono (by decide)) rfl tk (la_cons (lm_c (.int 1) pe_int) (la_cons (lm_c (.int 0) pe_int) (la_cons (lm_var 4) (la_cons (lm_var 5) (la_cons (lm_var 6) la_nil))))))))))))))))
abbrev s__law_one : Stmt := topS 22
abbrev N__law_one : List Str := ["source", "some"]
theorem S__law_one : FnScope N__law_one ["source", "some"] (defScope s__law_one) := ⟨rfl, rfl, rfl, by decide +kernel, rfl, by decide +kernel, by decide +kernel⟩
theorem ok__law_one (T : Txt K mg c) (F : FunD K "_law_one" "_law_one" (defArgs s__law_one) (defBody s__law_one) (defScope s__law_one) [] [] f fd) (hm : mg "_law_one" = some (.ref f)) (D__law_next : Df P w K mg base 2 "_law_next" 2 [] (m_law_next c)) : Df P w K mg base 3 "_law_one" 2 [] (m_law_one c) := by
 obtain rfl := T.kk
 exact df0 (N := N__law_one) (mb := b_law_one c) F S__law_one hm (fun _ _ _ _ _ _ us hl => match us, hl with | [_, _], _ => rfl) fun cdv A outer s H E hr tk hp hu =>
 (lss_one (ls_ret (lm_ix ix_seq s_ix (lm_var 1) (lm_call (x := "_law_next") (dvs := []) D__law_next 0 (by decide) (hr.mono (by decide)) rfl tk (la_cons (lm_var 0) (la_cons (lm_callB call_lenA s_len rfl T.b_len (by decide +kernel) (la_cons (lm_var 1) la_nil)) la_nil))))))
abbrev s__law_plain_right : Stmt := topS 26
abbrev N__law_plain_right : List Str := ["source", "turns", "heads", "whole", "far", "one"]
theorem S__law_plain_right : FnScope N__law_plain_right ["source", "turns", "heads"] (defScope s__law_plain_right) := ⟨rfl, rfl, rfl, by decide +kernel, rfl, by decide +kernel, by decide +kernel⟩
theorem ok__law_plain_right (T : Txt K mg c) (F : FunD K "_law_plain_right" "_law_plain_right" (defArgs s__law_plain_right) (defBody s__law_plain_right) (defScope s__law_plain_right) [] [] f fd) (hm : mg "_law_plain_right" = some (.ref f)) (D__law_great : Df P w K mg base 3 "_law_great" 2 [] (m_law_great c)) (D_never_sampled : Df P w K mg base 4 "never_sampled" 4 [] (m_never_sampled c)) : Df P w K mg base 5 "_law_plain_right" 3 [] (m_law_plain_right c) := by
 obtain rfl := T.kk
 exact df0 (N := N__law_plain_right) (mb := b_law_plain_right c) F S__law_plain_right hm (fun _ _ _ _ _ _ us hl => match us, hl with | [_, _, _], _ => rfl) fun cdv A outer s H E hr tk hp hu =>
 (lss_cons (ls_set (i := 3) S__law_plain_right.nd rfl (Or.inl rfl) (lm_op op_mulA s_mulA (lm_var 1) (lm_var 2)))
 (lss_cons (ls_set (i := 4) S__law_plain_right.nd rfl (Or.inl rfl) (lm_op op_mulA s_mulA (lm_var 3) (lm_op op_addA s_add (lm_c (.int 1) pe_int) (lm_call (x := "_law_great") (dvs := []) D__law_great 0 (by decide) (hr.mono (by decide)) rfl tk (la_cons (lm_var 0) (la_cons (lm_op op_pow s_pow (lm_c (.int 10) pe_int) (lm_c (.int 40) pe_int)) la_nil))))))
 (lss_cons (ls_for hp rfl (li_tup (lm_tup (la_cons (lm_op op_addA s_add (lm_var 4) (lm_c (.int 1) pe_int)) (la_cons (lm_op op_sub s_sub (lm_op op_mulA s_mulA (lm_c (.int 2) pe_int) (lm_var 4)) (lm_c (.int 1) pe_int)) la_nil)))) (pg_name (i := 5) S__law_plain_right.nd rfl (Or.inl rfl)) (sg_nm 5)
 (lss_one (ls_if (lt_cmp (op_neD hu) s_ne (lm_call (x := "never_sampled") (dvs := []) D_never_sampled 0 (by decide) (hr.mono (by decide)) rfl tk (la_cons (lm_tup (la_cons (lm_c (.int 1) pe_int) (la_cons (lm_c (.int 0) pe_int) la_nil))) (la_cons (lm_var 5) (la_cons (lm_var 1) (la_cons (lm_var 2) la_nil))))) (lm_lst la_nil))
 (lss_one (ls_ret (lm_c (.bl false) pe_bl)))
 lss_nil)))
 (lss_one (ls_ret (lm_cmp (op_eqD hu) s_eq (lm_call (x := "never_sampled") (dvs := []) D_never_sampled 0 (by decide) (hr.mono (by decide)) rfl tk (la_cons (lm_tup (la_cons (lm_c (.int 1) pe_int) (la_cons (lm_c (.int 0) pe_int) la_nil))) (la_cons (lm_var 4) (la_cons (lm_var 1) (la_cons (lm_var 2) la_nil))))) (lm_lrg rfl rfl T.b_list rfl T.b_range (lm_c (.int 1) pe_int) (lm_var 2))))))))
abbrev s__law_source : Stmt := topS 20
abbrev N__law_source : List Str := ["script", "turn", "cell"]
theorem S__law_source : FnScope N__law_source ["script", "turn"] (defScope s__law_source) := ⟨rfl, rfl, rfl, by decide +kernel, rfl, by decide +kernel, by decide +kernel⟩
theorem ok__law_source (T : Txt K mg c) (F : FunD K "_law_source" "_law_source" (defArgs s__law_source) (defBody s__law_source) (defScope s__law_source) [] [] f fd) (hm : mg "_law_source" = some (.ref f))  : Df P w K mg base 1 "_law_source" 2 [] (m_law_source c) := by
 obtain rfl := T.kk
 exact df0 (N := N__law_source) (mb := b_law_source c) F S__law_source hm (fun _ _ _ _ _ _ us hl => match us, hl with | [_, _], _ => rfl) fun cdv A outer s H E hr tk hp hu =>
 (lss_cons (ls_set (i := 2) S__law_source.nd rfl (Or.inl rfl) (lm_if (lt_cmp op_lt s_lt (lm_var 1) (lm_callB call_lenA s_len rfl T.b_len (by decide +kernel) (la_cons (lm_var 0) la_nil))) (lm_ix ix_seq s_ix (lm_var 0) (lm_var 1)) (lm_var 1)))
 (lss_one (ls_ret (lm_lst (la_cons (lm_op op_mulA s_mulA (lm_var 2) (lm_callTy call_int1 s_int rfl T.b_int (by decide +kernel) (la_cons (lm_cmp op_ge s_ge (lm_var 2) (lm_op op_pow s_pow (lm_c (.int 10) pe_int) (lm_c (.int 18) pe_int))) la_nil))) (la_cons (lm_var 2) (la_cons (lm_c (.int 0) pe_int) la_nil)))))))
abbrev s_law : Stmt := topS 27
abbrev N_law : List Str := ["script", "turn", "source", "again", "speed", "shift", "size", "turns", "heads", "due", "told"]
theorem S_law : FnScope N_law ["script"] (defScope s_law) := ⟨rfl, rfl, rfl, by decide +kernel, rfl, by decide +kernel, by decide +kernel⟩
theorem ok_law (T : Txt K mg c) (F : FunD K "law" "law" (defArgs s_law) (defBody s_law) (defScope s_law) [] [] f fd) (D__law_due : Df P w K mg base 1 "_law_due" 5 [] (m_law_due c)) (D__law_far_right : Df P w K mg base 5 "_law_far_right" 7 [] (m_law_far_right c)) (D__law_next : Df P w K mg base 2 "_law_next" 2 [] (m_law_next c)) (D__law_one : Df P w K mg base 3 "_law_one" 2 [] (m_law_one c)) (D__law_plain_right : Df P w K mg base 5 "_law_plain_right" 3 [] (m_law_plain_right c)) (D__law_source : Df P w K mg base 1 "_law_source" 2 [] (m_law_source c)) (D_never_sampled : Df P w K mg base 4 "never_sampled" 4 [] (m_never_sampled c)) (DK_never_sampled : DfK P w K mg base 4 "never_sampled" 4 ["many", "quantum", "tick", "rate"] rev4 (m_never_sampled c)) : FnOk P w K mg base (L2.CX P w) 6 f fd ["script"] (spM K 1 (m_law c)) := by
 obtain rfl := T.kk
 exact df_fn2 (N := N_law) (ps := ["script"]) (k := 5) (mb := b_law c) F S_law fun cdv A outer s H E hr tk hp hu =>
 (lss_cons (ls_for hp rfl (li_rng1 rfl T.b_range (la_cons (lm_callB (call_max2 rfl) s_max2 rfl T.b_max (by decide +kernel) (la_cons (lm_c (.int 1) pe_int) (la_cons (lm_callB (call_min2 rfl) s_min2 rfl T.b_min (by decide +kernel) (la_cons (lm_c (.int 6) pe_int) (la_cons (lm_callB call_lenA s_len rfl T.b_len (by decide +kernel) (la_cons (lm_var 0) la_nil)) la_nil))) la_nil))) la_nil)) (pg_name (i := 1) S_law.nd rfl (Or.inl rfl)) (sg_nm 1)
 (lss_cons (ls_set (i := 2) S_law.nd rfl (Or.inl rfl) (lm_call (x := "_law_source") (dvs := []) D__law_source 0 (by decide) (hr.mono (by decide)) rfl tk (la_cons (lm_var 0) (la_cons (lm_var 1) la_nil))))
 (lss_one (ls_for hp rfl (li_rng1 rfl T.b_range (la_cons (lm_c (.int 3) pe_int) la_nil)) (pg_name (i := 3) S_law.nd rfl (Or.inl rfl)) (sg_nm 3)
 (lss_cons (ls_par (i := 4) (j := 5) (fun h => ps_par (i := 4) (j := 5) rfl S_law.nd rfl rfl (by decide) rfl rfl h rfl) (la_cons (lm_op op_addA s_add (lm_c (.int 1) pe_int) (lm_call (x := "_law_next") (dvs := []) D__law_next 0 (by decide) (hr.mono (by decide)) rfl tk (la_cons (lm_var 2) (la_cons (lm_c (.int 12) pe_int) la_nil)))) (la_cons (lm_call (x := "_law_next") (dvs := []) D__law_next 0 (by decide) (hr.mono (by decide)) rfl tk (la_cons (lm_var 2) (la_cons (lm_c (.int 3) pe_int) la_nil))) la_nil)))
 (lss_cons (ls_par (i := 6) (j := 7) (fun h => ps_par (i := 6) (j := 7) rfl S_law.nd rfl rfl (by decide) rfl rfl h rfl) (la_cons (lm_op op_addA s_add (lm_c (.int 1) pe_int) (lm_call (x := "_law_next") (dvs := []) D__law_next 0 (by decide) (hr.mono (by decide)) rfl tk (la_cons (lm_var 2) (la_cons (lm_c (.int 8) pe_int) la_nil)))) (la_cons (lm_op op_addA s_add (lm_c (.int 1) pe_int) (lm_call (x := "_law_next") (dvs := []) D__law_next 0 (by decide) (hr.mono (by decide)) rfl tk (la_cons (lm_var 2) (la_cons (lm_c (.int 9) pe_int) la_nil)))) la_nil)))
 (lss_cons (ls_set (i := 8) S_law.nd rfl (Or.inl rfl) (lm_op op_addA s_add (lm_c (.int 1) pe_int) (lm_call (x := "_law_next") (dvs := []) D__law_next 0 (by decide) (hr.mono (by decide)) rfl tk (la_cons (lm_var 2) (la_cons (lm_call (x := "_law_one") (dvs := []) D__law_one 0 (by decide) (hr.mono (by decide)) rfl tk (la_cons (lm_var 2) (la_cons (lm_lst (la_cons (lm_c (.int 6) pe_int) (la_cons (lm_c (.int 6) pe_int) (la_cons (lm_c (.int 40) pe_int) la_nil)))) la_nil))) la_nil)))))
 (lss_cons (ls_set (i := 9) S_law.nd rfl (Or.inl rfl) (lm_call (x := "_law_due") (dvs := []) D__law_due 0 (by decide) (hr.mono (by decide)) rfl tk (la_cons (lm_var 4) (la_cons (lm_var 5) (la_cons (lm_var 6) (la_cons (lm_var 7) (la_cons (lm_var 8) la_nil)))))))
 (lss_cons (ls_set (i := 10) S_law.nd rfl (Or.inl rfl) (lm_call (x := "never_sampled") (dvs := []) D_never_sampled 0 (by decide) (hr.mono (by decide)) rfl tk (la_cons (lm_tup (la_cons (lm_var 4) (la_cons (lm_var 5) la_nil))) (la_cons (lm_var 6) (la_cons (lm_var 7) (la_cons (lm_var 8) la_nil))))))
 (lss_cons (ls_if (lt_cmp (op_neD hu) s_ne (lm_var 10) (lm_var 9))
 (lss_one (ls_ret (lm_c (.bl false) pe_bl)))
 lss_nil)
 (lss_cons (ls_if (lt_cmp (op_neD hu) s_ne (lm_callK (x := "never_sampled") DK_never_sampled (hr.mono (by decide)) rfl tk (lk_cons (lm_var 8) (lk_cons (lm_var 7) (lk_cons (lm_var 6) (lk_cons (lm_tup (la_cons (lm_var 4) (la_cons (lm_var 5) la_nil))) lk_nil))))) (lm_var 9))
 (lss_one (ls_ret (lm_c (.bl false) pe_bl)))
 lss_nil)
 (lss_cons (ls_expr (lm_mL PySem.F.slot_list_append PySem.F.type_list_append mt_append s_append (lm_var 10) (la_cons (lm_c .non pe_non) la_nil)))
 (lss_cons (ls_if (lt_cmp (op_neD hu) s_ne (lm_call (x := "never_sampled") (dvs := []) D_never_sampled 0 (by decide) (hr.mono (by decide)) rfl tk (la_cons (lm_tup (la_cons (lm_var 4) (la_cons (lm_var 5) la_nil))) (la_cons (lm_var 6) (la_cons (lm_var 7) (la_cons (lm_var 8) la_nil))))) (lm_var 9))
 (lss_one (ls_ret (lm_c (.bl false) pe_bl)))
 lss_nil)
 (lss_cons (ls_if (lt_not (lt_val (lm_call (x := "_law_far_right") (dvs := []) D__law_far_right 0 (by decide) (hr.mono (by decide)) rfl tk (la_cons (lm_var 2) (la_cons (lm_var 9) (la_cons (lm_var 4) (la_cons (lm_var 5) (la_cons (lm_var 6) (la_cons (lm_var 7) (la_cons (lm_var 8) la_nil))))))))))
 (lss_one (ls_ret (lm_c (.bl false) pe_bl)))
 lss_nil)
 (lss_one (ls_if (lt_not (lt_val (lm_call (x := "_law_plain_right") (dvs := []) D__law_plain_right 0 (by decide) (hr.mono (by decide)) rfl tk (la_cons (lm_var 2) (la_cons (lm_var 7) (la_cons (lm_var 8) la_nil))))))
 (lss_one (ls_ret (lm_c (.bl false) pe_bl)))
 lss_nil))))))))))))))))
 (lss_one (ls_ret (lm_c (.bl true) pe_bl))))
end
end L3
namespace L3
open PySem PySem.Spec PyProof.Rows L2

theorem all_mk {P : Program} {w : World} {K : PySem.W.Frag} {h : Heap} {mg : Str → Option Value} {fa : Addr} (X : K.In h) (G : h.Ns mainGlobals mg) (hfa : mg "law" = some (.ref fa)) {f_law_due f_law_mixed f_law_next f_law_great f_is_whole f_power f_is_mult f_is_shift f_check_rate f_common_divisor f_never_sampled f_law_far_right f_law_one f_law_plain_right f_law_source f_law C_KernelError C_NoQuantum C_NoRate C_NoThread C_NoTick : Addr}
 {od_law_due an_law_due : Option Addr} {sl_law_due : Array (Option Value)} {oc_law_due kV_law_due dc_law_due pm_law_due cd_law_due ct_law_due : Value} {od_law_mixed an_law_mixed : Option Addr} {sl_law_mixed : Array (Option Value)} {oc_law_mixed kV_law_mixed dc_law_mixed pm_law_mixed cd_law_mixed ct_law_mixed : Value} {od_law_next an_law_next : Option Addr} {sl_law_next : Array (Option Value)} {oc_law_next kV_law_next dc_law_next pm_law_next cd_law_next ct_law_next : Value} {od_law_great an_law_great : Option Addr} {sl_law_great : Array (Option Value)} {oc_law_great kV_law_great dc_law_great pm_law_great cd_law_great ct_law_great : Value} {od_is_whole an_is_whole : Option Addr} {sl_is_whole : Array (Option Value)} {oc_is_whole kV_is_whole dc_is_whole pm_is_whole cd_is_whole ct_is_whole : Value} {T_is_whole : Addr} {o_is_whole : Obj} {n_is_whole : Nat} {d0_is_whole : Value} {od_power an_power : Option Addr} {sl_power : Array (Option Value)} {oc_power kV_power dc_power pm_power cd_power ct_power : Value} {od_is_mult an_is_mult : Option Addr} {sl_is_mult : Array (Option Value)} {oc_is_mult kV_is_mult dc_is_mult pm_is_mult cd_is_mult ct_is_mult : Value} {od_is_shift an_is_shift : Option Addr} {sl_is_shift : Array (Option Value)} {oc_is_shift kV_is_shift dc_is_shift pm_is_shift cd_is_shift ct_is_shift : Value} {od_check_rate an_check_rate : Option Addr} {sl_check_rate : Array (Option Value)} {oc_check_rate kV_check_rate dc_check_rate pm_check_rate cd_check_rate ct_check_rate : Value} {od_common_divisor an_common_divisor : Option Addr} {sl_common_divisor : Array (Option Value)} {oc_common_divisor kV_common_divisor dc_common_divisor pm_common_divisor cd_common_divisor ct_common_divisor : Value} {od_never_sampled an_never_sampled : Option Addr} {sl_never_sampled : Array (Option Value)} {oc_never_sampled kV_never_sampled dc_never_sampled pm_never_sampled cd_never_sampled ct_never_sampled : Value} {od_law_far_right an_law_far_right : Option Addr} {sl_law_far_right : Array (Option Value)} {oc_law_far_right kV_law_far_right dc_law_far_right pm_law_far_right cd_law_far_right ct_law_far_right : Value} {od_law_one an_law_one : Option Addr} {sl_law_one : Array (Option Value)} {oc_law_one kV_law_one dc_law_one pm_law_one cd_law_one ct_law_one : Value} {od_law_plain_right an_law_plain_right : Option Addr} {sl_law_plain_right : Array (Option Value)} {oc_law_plain_right kV_law_plain_right dc_law_plain_right pm_law_plain_right cd_law_plain_right ct_law_plain_right : Value} {od_law_source an_law_source : Option Addr} {sl_law_source : Array (Option Value)} {oc_law_source kV_law_source dc_law_source pm_law_source cd_law_source ct_law_source : Value} {od_law an_law : Option Addr} {sl_law : Array (Option Value)} {oc_law kV_law dc_law pm_law cd_law ct_law : Value} {t_MOST_SHIFT : Tok} {t_MOST_THREADS : Tok}
(a_law_due : PySem.W.nsIn K mainGlobals "_law_due" = some (some (.ref f_law_due)))
 (l_law_due : K.lookup f_law_due = some ⟨oc_law_due, od_law_due, .func (PySem.W.fnOf "_law_due" "_law_due" (defArgs s__law_due) (defBody s__law_due) (defScope s__law_due) .none kV_law_due dc_law_due pm_law_due an_law_due cd_law_due ct_law_due), sl_law_due⟩)
 (c_law_due : PySem.W.codeIn K cd_law_due "_law_due" = true)
 (k_law_due : PySem.W.keepIn K (.ref f_law_due) = true)
 (a_law_mixed : PySem.W.nsIn K mainGlobals "_law_mixed" = some (some (.ref f_law_mixed)))
 (l_law_mixed : K.lookup f_law_mixed = some ⟨oc_law_mixed, od_law_mixed, .func (PySem.W.fnOf "_law_mixed" "_law_mixed" (defArgs s__law_mixed) (defBody s__law_mixed) (defScope s__law_mixed) .none kV_law_mixed dc_law_mixed pm_law_mixed an_law_mixed cd_law_mixed ct_law_mixed), sl_law_mixed⟩)
 (c_law_mixed : PySem.W.codeIn K cd_law_mixed "_law_mixed" = true)
 (k_law_mixed : PySem.W.keepIn K (.ref f_law_mixed) = true)
 (a_law_next : PySem.W.nsIn K mainGlobals "_law_next" = some (some (.ref f_law_next)))
 (l_law_next : K.lookup f_law_next = some ⟨oc_law_next, od_law_next, .func (PySem.W.fnOf "_law_next" "_law_next" (defArgs s__law_next) (defBody s__law_next) (defScope s__law_next) .none kV_law_next dc_law_next pm_law_next an_law_next cd_law_next ct_law_next), sl_law_next⟩)
 (c_law_next : PySem.W.codeIn K cd_law_next "_law_next" = true)
 (k_law_next : PySem.W.keepIn K (.ref f_law_next) = true)
 (a_law_great : PySem.W.nsIn K mainGlobals "_law_great" = some (some (.ref f_law_great)))
 (l_law_great : K.lookup f_law_great = some ⟨oc_law_great, od_law_great, .func (PySem.W.fnOf "_law_great" "_law_great" (defArgs s__law_great) (defBody s__law_great) (defScope s__law_great) .none kV_law_great dc_law_great pm_law_great an_law_great cd_law_great ct_law_great), sl_law_great⟩)
 (c_law_great : PySem.W.codeIn K cd_law_great "_law_great" = true)
 (k_law_great : PySem.W.keepIn K (.ref f_law_great) = true)
 (a_is_whole : PySem.W.nsIn K mainGlobals "is_whole" = some (some (.ref f_is_whole)))
 (l_is_whole : K.lookup f_is_whole = some ⟨oc_is_whole, od_is_whole, .func (PySem.W.fnOf "is_whole" "is_whole" (defArgs s_is_whole) (defBody s_is_whole) (defScope s_is_whole) (.ref T_is_whole) kV_is_whole dc_is_whole pm_is_whole an_is_whole cd_is_whole ct_is_whole), sl_is_whole⟩)
 (c_is_whole : PySem.W.codeIn K cd_is_whole "is_whole" = true)
 (k_is_whole : PySem.W.keepIn K (.ref f_is_whole) = true)
 (t_is_whole : K.lookup T_is_whole = some o_is_whole)
 (u_is_whole : o_is_whole.data = .seq [d0_is_whole].toArray n_is_whole)
 (v_is_whole : Vals [V.non] [d0_is_whole])
 (a_power : PySem.W.nsIn K mainGlobals "power" = some (some (.ref f_power)))
 (l_power : K.lookup f_power = some ⟨oc_power, od_power, .func (PySem.W.fnOf "power" "power" (defArgs s_power) (defBody s_power) (defScope s_power) .none kV_power dc_power pm_power an_power cd_power ct_power), sl_power⟩)
 (c_power : PySem.W.codeIn K cd_power "power" = true)
 (k_power : PySem.W.keepIn K (.ref f_power) = true)
 (a_is_mult : PySem.W.nsIn K mainGlobals "is_mult" = some (some (.ref f_is_mult)))
 (l_is_mult : K.lookup f_is_mult = some ⟨oc_is_mult, od_is_mult, .func (PySem.W.fnOf "is_mult" "is_mult" (defArgs s_is_mult) (defBody s_is_mult) (defScope s_is_mult) .none kV_is_mult dc_is_mult pm_is_mult an_is_mult cd_is_mult ct_is_mult), sl_is_mult⟩)
 (c_is_mult : PySem.W.codeIn K cd_is_mult "is_mult" = true)
 (k_is_mult : PySem.W.keepIn K (.ref f_is_mult) = true)
 (a_is_shift : PySem.W.nsIn K mainGlobals "is_shift" = some (some (.ref f_is_shift)))
 (l_is_shift : K.lookup f_is_shift = some ⟨oc_is_shift, od_is_shift, .func (PySem.W.fnOf "is_shift" "is_shift" (defArgs s_is_shift) (defBody s_is_shift) (defScope s_is_shift) .none kV_is_shift dc_is_shift pm_is_shift an_is_shift cd_is_shift ct_is_shift), sl_is_shift⟩)
 (c_is_shift : PySem.W.codeIn K cd_is_shift "is_shift" = true)
 (k_is_shift : PySem.W.keepIn K (.ref f_is_shift) = true)
 (a_check_rate : PySem.W.nsIn K mainGlobals "check_rate" = some (some (.ref f_check_rate)))
 (l_check_rate : K.lookup f_check_rate = some ⟨oc_check_rate, od_check_rate, .func (PySem.W.fnOf "check_rate" "check_rate" (defArgs s_check_rate) (defBody s_check_rate) (defScope s_check_rate) .none kV_check_rate dc_check_rate pm_check_rate an_check_rate cd_check_rate ct_check_rate), sl_check_rate⟩)
 (c_check_rate : PySem.W.codeIn K cd_check_rate "check_rate" = true)
 (k_check_rate : PySem.W.keepIn K (.ref f_check_rate) = true)
 (a_common_divisor : PySem.W.nsIn K mainGlobals "common_divisor" = some (some (.ref f_common_divisor)))
 (l_common_divisor : K.lookup f_common_divisor = some ⟨oc_common_divisor, od_common_divisor, .func (PySem.W.fnOf "common_divisor" "common_divisor" (defArgs s_common_divisor) (defBody s_common_divisor) (defScope s_common_divisor) .none kV_common_divisor dc_common_divisor pm_common_divisor an_common_divisor cd_common_divisor ct_common_divisor), sl_common_divisor⟩)
 (c_common_divisor : PySem.W.codeIn K cd_common_divisor "common_divisor" = true)
 (k_common_divisor : PySem.W.keepIn K (.ref f_common_divisor) = true)
 (a_never_sampled : PySem.W.nsIn K mainGlobals "never_sampled" = some (some (.ref f_never_sampled)))
 (l_never_sampled : K.lookup f_never_sampled = some ⟨oc_never_sampled, od_never_sampled, .func (PySem.W.fnOf "never_sampled" "never_sampled" (defArgs s_never_sampled) (defBody s_never_sampled) (defScope s_never_sampled) .none kV_never_sampled dc_never_sampled pm_never_sampled an_never_sampled cd_never_sampled ct_never_sampled), sl_never_sampled⟩)
 (c_never_sampled : PySem.W.codeIn K cd_never_sampled "never_sampled" = true)
 (k_never_sampled : PySem.W.keepIn K (.ref f_never_sampled) = true)
 (a_law_far_right : PySem.W.nsIn K mainGlobals "_law_far_right" = some (some (.ref f_law_far_right)))
 (l_law_far_right : K.lookup f_law_far_right = some ⟨oc_law_far_right, od_law_far_right, .func (PySem.W.fnOf "_law_far_right" "_law_far_right" (defArgs s__law_far_right) (defBody s__law_far_right) (defScope s__law_far_right) .none kV_law_far_right dc_law_far_right pm_law_far_right an_law_far_right cd_law_far_right ct_law_far_right), sl_law_far_right⟩)
 (c_law_far_right : PySem.W.codeIn K cd_law_far_right "_law_far_right" = true)
 (k_law_far_right : PySem.W.keepIn K (.ref f_law_far_right) = true)
 (a_law_one : PySem.W.nsIn K mainGlobals "_law_one" = some (some (.ref f_law_one)))
 (l_law_one : K.lookup f_law_one = some ⟨oc_law_one, od_law_one, .func (PySem.W.fnOf "_law_one" "_law_one" (defArgs s__law_one) (defBody s__law_one) (defScope s__law_one) .none kV_law_one dc_law_one pm_law_one an_law_one cd_law_one ct_law_one), sl_law_one⟩)
 (c_law_one : PySem.W.codeIn K cd_law_one "_law_one" = true)
 (k_law_one : PySem.W.keepIn K (.ref f_law_one) = true)
 (a_law_plain_right : PySem.W.nsIn K mainGlobals "_law_plain_right" = some (some (.ref f_law_plain_right)))
 (l_law_plain_right : K.lookup f_law_plain_right = some ⟨oc_law_plain_right, od_law_plain_right, .func (PySem.W.fnOf "_law_plain_right" "_law_plain_right" (defArgs s__law_plain_right) (defBody s__law_plain_right) (defScope s__law_plain_right) .none kV_law_plain_right dc_law_plain_right pm_law_plain_right an_law_plain_right cd_law_plain_right ct_law_plain_right), sl_law_plain_right⟩)
 (c_law_plain_right : PySem.W.codeIn K cd_law_plain_right "_law_plain_right" = true)
 (k_law_plain_right : PySem.W.keepIn K (.ref f_law_plain_right) = true)
 (a_law_source : PySem.W.nsIn K mainGlobals "_law_source" = some (some (.ref f_law_source)))
 (l_law_source : K.lookup f_law_source = some ⟨oc_law_source, od_law_source, .func (PySem.W.fnOf "_law_source" "_law_source" (defArgs s__law_source) (defBody s__law_source) (defScope s__law_source) .none kV_law_source dc_law_source pm_law_source an_law_source cd_law_source ct_law_source), sl_law_source⟩)
 (c_law_source : PySem.W.codeIn K cd_law_source "_law_source" = true)
 (k_law_source : PySem.W.keepIn K (.ref f_law_source) = true)
 (a_law : PySem.W.nsIn K mainGlobals "law" = some (some (.ref f_law)))
 (l_law : K.lookup f_law = some ⟨oc_law, od_law, .func (PySem.W.fnOf "law" "law" (defArgs s_law) (defBody s_law) (defScope s_law) .none kV_law dc_law pm_law an_law cd_law ct_law), sl_law⟩)
 (c_law : PySem.W.codeIn K cd_law "law" = true)
 (k_law : PySem.W.keepIn K (.ref f_law) = true)
 (b_bool : PySem.W.nsIn K mainGlobals "bool" = some none)
 (b_enumerate : PySem.W.nsIn K mainGlobals "enumerate" = some none)
 (b_int : PySem.W.nsIn K mainGlobals "int" = some none)
 (b_isinstance : PySem.W.nsIn K mainGlobals "isinstance" = some none)
 (b_len : PySem.W.nsIn K mainGlobals "len" = some none)
 (b_list : PySem.W.nsIn K mainGlobals "list" = some none)
 (b_max : PySem.W.nsIn K mainGlobals "max" = some none)
 (b_min : PySem.W.nsIn K mainGlobals "min" = some none)
 (b_range : PySem.W.nsIn K mainGlobals "range" = some none)
 (b_tuple : PySem.W.nsIn K mainGlobals "tuple" = some none)
 (g_MOST_SHIFT : PySem.W.nsIn K mainGlobals "MOST_SHIFT" = some (some (.int 64 t_MOST_SHIFT)))
 (g_MOST_THREADS : PySem.W.nsIn K mainGlobals "MOST_THREADS" = some (some (.int 40 t_MOST_THREADS)))
 (xa_KernelError : PySem.W.nsIn K mainGlobals "KernelError" = some (some (.ref C_KernelError)))
 (xq_KernelError : PySem.W.excIn K C_KernelError [.type "ValueError", .type "Exception", .type "BaseException", .type "object"] "ValueError.__new__" = true)
 (xk_KernelError : PySem.W.keepIn K (.ref C_KernelError) = true)
 (xb_KernelError : PySem.W.subIn K (.ref C_KernelError) (.type "BaseException") = some true)
 (xt_KernelError : PySem.W.typeIn K (.ref C_KernelError) = some (.type "type"))
 (xa_NoQuantum : PySem.W.nsIn K mainGlobals "NoQuantum" = some (some (.ref C_NoQuantum)))
 (xq_NoQuantum : PySem.W.excIn K C_NoQuantum [.type "ValueError", .type "Exception", .type "BaseException", .type "object"] "ValueError.__new__" = true)
 (xk_NoQuantum : PySem.W.keepIn K (.ref C_NoQuantum) = true)
 (xb_NoQuantum : PySem.W.subIn K (.ref C_NoQuantum) (.type "BaseException") = some true)
 (xt_NoQuantum : PySem.W.typeIn K (.ref C_NoQuantum) = some (.type "type"))
 (xa_NoRate : PySem.W.nsIn K mainGlobals "NoRate" = some (some (.ref C_NoRate)))
 (xq_NoRate : PySem.W.excIn K C_NoRate [.type "ValueError", .type "Exception", .type "BaseException", .type "object"] "ValueError.__new__" = true)
 (xk_NoRate : PySem.W.keepIn K (.ref C_NoRate) = true)
 (xb_NoRate : PySem.W.subIn K (.ref C_NoRate) (.type "BaseException") = some true)
 (xt_NoRate : PySem.W.typeIn K (.ref C_NoRate) = some (.type "type"))
 (xa_NoThread : PySem.W.nsIn K mainGlobals "NoThread" = some (some (.ref C_NoThread)))
 (xq_NoThread : PySem.W.excIn K C_NoThread [.type "ValueError", .type "Exception", .type "BaseException", .type "object"] "ValueError.__new__" = true)
 (xk_NoThread : PySem.W.keepIn K (.ref C_NoThread) = true)
 (xb_NoThread : PySem.W.subIn K (.ref C_NoThread) (.type "BaseException") = some true)
 (xt_NoThread : PySem.W.typeIn K (.ref C_NoThread) = some (.type "type"))
 (xa_NoTick : PySem.W.nsIn K mainGlobals "NoTick" = some (some (.ref C_NoTick)))
 (xq_NoTick : PySem.W.excIn K C_NoTick [.type "ValueError", .type "Exception", .type "BaseException", .type "object"] "ValueError.__new__" = true)
 (xk_NoTick : PySem.W.keepIn K (.ref C_NoTick) = true)
 (xb_NoTick : PySem.W.subIn K (.ref C_NoTick) (.type "BaseException") = some true)
 (xt_NoTick : PySem.W.typeIn K (.ref C_NoTick) = some (.type "type"))
 : ∃ fd : FuncData, (∀ (s : Shared) (v : Value), BindsTo s fd ⟨[v], []⟩ [("script", v)]) ∧ ∀ base : Heap, K.In base → base.Ns mainGlobals mg → FnOk P w K mg base (L2.CX P w) 6 fa fd ["script"] (spLaw K) := by
  have e := hfa.symm.trans (PySem.W.mg_of X G a_law)
  cases e
  have T : Txt K mg (Cs.mk K C_KernelError 0 0 0 C_NoRate 0 0 0 C_NoTick 0 0 0 0 0 0 0 0 0 0 0 0 C_NoThread C_NoQuantum 0 0 0 0) := ⟨rfl, PySem.W.mg_none_of X G b_bool, PySem.W.mg_none_of X G b_enumerate, PySem.W.mg_none_of X G b_int, PySem.W.mg_none_of X G b_isinstance, PySem.W.mg_none_of X G b_len, PySem.W.mg_none_of X G b_list, PySem.W.mg_none_of X G b_max, PySem.W.mg_none_of X G b_min, PySem.W.mg_none_of X G b_range, PySem.W.mg_none_of X G b_tuple, ⟨_, PySem.W.mg_of X G g_MOST_SHIFT, ⟨_, rfl⟩⟩, ⟨_, PySem.W.mg_of X G g_MOST_THREADS, ⟨_, rfl⟩⟩, ⟨PySem.W.mg_of X G xa_KernelError, xq_KernelError, xk_KernelError, xb_KernelError, xt_KernelError⟩, ⟨PySem.W.mg_of X G xa_NoQuantum, xq_NoQuantum, xk_NoQuantum, xb_NoQuantum, xt_NoQuantum⟩, ⟨PySem.W.mg_of X G xa_NoRate, xq_NoRate, xk_NoRate, xb_NoRate, xt_NoRate⟩, ⟨PySem.W.mg_of X G xa_NoThread, xq_NoThread, xk_NoThread, xb_NoThread, xt_NoThread⟩, ⟨PySem.W.mg_of X G xa_NoTick, xq_NoTick, xk_NoTick, xb_NoTick, xt_NoTick⟩⟩
  have F_law_due := fun0 (st := s__law_due) l_law_due c_law_due k_law_due
  have F_law_mixed := fun0 (st := s__law_mixed) l_law_mixed c_law_mixed k_law_mixed
  have F_law_next := fun0 (st := s__law_next) l_law_next c_law_next k_law_next
  have F_law_great := fun0 (st := s__law_great) l_law_great c_law_great k_law_great
  have F_is_whole := funD (st := s_is_whole) l_is_whole c_is_whole k_is_whole t_is_whole u_is_whole v_is_whole (by decide)
  have F_power := fun0 (st := s_power) l_power c_power k_power
  have F_is_mult := fun0 (st := s_is_mult) l_is_mult c_is_mult k_is_mult
  have F_is_shift := fun0 (st := s_is_shift) l_is_shift c_is_shift k_is_shift
  have F_check_rate := fun0 (st := s_check_rate) l_check_rate c_check_rate k_check_rate
  have F_common_divisor := fun0 (st := s_common_divisor) l_common_divisor c_common_divisor k_common_divisor
  have F_never_sampled := fun0 (st := s_never_sampled) l_never_sampled c_never_sampled k_never_sampled
  have F_law_far_right := fun0 (st := s__law_far_right) l_law_far_right c_law_far_right k_law_far_right
  have F_law_one := fun0 (st := s__law_one) l_law_one c_law_one k_law_one
  have F_law_plain_right := fun0 (st := s__law_plain_right) l_law_plain_right c_law_plain_right k_law_plain_right
  have F_law_source := fun0 (st := s__law_source) l_law_source c_law_source k_law_source
  have F_law := fun0 (st := s_law) l_law c_law k_law
  refine ⟨_, fun s v => F_law.bindsA (ps := ["script"]) (fun _ _ _ _ _ _ us hl => match us, hl with | [_], _ => rfl) s [v] rfl, fun base _ _ => ?_⟩
  have D__law_due := ok__law_due (P := P) (w := w) (base := base) T F_law_due (PySem.W.mg_of X G a_law_due)
  have D__law_mixed := ok__law_mixed (P := P) (w := w) (base := base) T F_law_mixed (PySem.W.mg_of X G a_law_mixed)
  have D__law_next := ok__law_next (P := P) (w := w) (base := base) T F_law_next (PySem.W.mg_of X G a_law_next) D__law_mixed
  have D__law_great := ok__law_great (P := P) (w := w) (base := base) T F_law_great (PySem.W.mg_of X G a_law_great) D__law_next
  have D_is_whole := ok_is_whole (P := P) (w := w) (base := base) T F_is_whole (PySem.W.mg_of X G a_is_whole)
  have D_power := ok_power (P := P) (w := w) (base := base) T F_power (PySem.W.mg_of X G a_power)
  have D_is_mult := ok_is_mult (P := P) (w := w) (base := base) T F_is_mult (PySem.W.mg_of X G a_is_mult) D_is_whole D_power
  have D_is_shift := ok_is_shift (P := P) (w := w) (base := base) T F_is_shift (PySem.W.mg_of X G a_is_shift) D_is_whole
  have D_check_rate := ok_check_rate (P := P) (w := w) (base := base) T F_check_rate (PySem.W.mg_of X G a_check_rate) D_is_mult D_is_shift
  have D_common_divisor := ok_common_divisor (P := P) (w := w) (base := base) T F_common_divisor (PySem.W.mg_of X G a_common_divisor)
  have D_never_sampled := ok_never_sampled (P := P) (w := w) (base := base) T F_never_sampled (PySem.W.mg_of X G a_never_sampled) D_check_rate D_common_divisor D_is_whole
  have DK_never_sampled := okK_never_sampled (P := P) (w := w) (base := base) T F_never_sampled (PySem.W.mg_of X G a_never_sampled) D_check_rate D_common_divisor D_is_whole
  have D__law_far_right := ok__law_far_right (P := P) (w := w) (base := base) T F_law_far_right (PySem.W.mg_of X G a_law_far_right) D__law_due D__law_great D__law_next D_never_sampled
  have D__law_one := ok__law_one (P := P) (w := w) (base := base) T F_law_one (PySem.W.mg_of X G a_law_one) D__law_next
  have D__law_plain_right := ok__law_plain_right (P := P) (w := w) (base := base) T F_law_plain_right (PySem.W.mg_of X G a_law_plain_right) D__law_great D_never_sampled
  have D__law_source := ok__law_source (P := P) (w := w) (base := base) T F_law_source (PySem.W.mg_of X G a_law_source)
  exact FnOk.imp (ok_law T F_law D__law_due D__law_far_right D__law_next D__law_one D__law_plain_right D__law_source D_never_sampled DK_never_sampled) (law_imp (run_law _))
end L3
open PySem PySem.W PyProof.Rows
set_option maxHeartbeats 0 in
theorem PySem.Challenge.cw_timekernel_k56_threads_that_are_never_sa_holds : PySem.Challenge.rw_timekernel_k56_threads_that_are_never_sa.Holds := by
  w_on; o_law; k_head; (case hw => w_witness2)
  k_fill
  refine L2.walk_ofB (l := PySem.Challenge.rw_timekernel_k56_threads_that_are_never_sa) (n := 63) (k := 6) (x := "script") (CX := fun w => L2.CX PySem.Challenge.pw_timekernel_k56_threads_that_are_never_sa w) (sp := fun w => L3.spLaw _) rfl (by decide) rfl ⟨rfl, by decide, by decide⟩ (fun w h Y => PySem.W.kIn_of Y) ?F (fun _ _ a ns hl hb hO hS => ⟨a, ns, rfl, hl, hb, hO, hS, fun _ => rfl⟩) (fun w H s e s' h => L3.cx_none h)
  case F =>
    intro w mg fa h KX G hmg
    refine' L3.all_mk KX G hmg ?a_law_due ?l_law_due ?c_law_due ?k_law_due ?a_law_mixed ?l_law_mixed ?c_law_mixed ?k_law_mixed ?a_law_next ?l_law_next ?c_law_next ?k_law_next ?a_law_great ?l_law_great ?c_law_great ?k_law_great ?a_is_whole ?l_is_whole ?c_is_whole ?k_is_whole ?t_is_whole ?u_is_whole ?v_is_whole ?a_power ?l_power ?c_power ?k_power ?a_is_mult ?l_is_mult ?c_is_mult ?k_is_mult ?a_is_shift ?l_is_shift ?c_is_shift ?k_is_shift ?a_check_rate ?l_check_rate ?c_check_rate ?k_check_rate ?a_common_divisor ?l_common_divisor ?c_common_divisor ?k_common_divisor ?a_never_sampled ?l_never_sampled ?c_never_sampled ?k_never_sampled ?a_law_far_right ?l_law_far_right ?c_law_far_right ?k_law_far_right ?a_law_one ?l_law_one ?c_law_one ?k_law_one ?a_law_plain_right ?l_law_plain_right ?c_law_plain_right ?k_law_plain_right ?a_law_source ?l_law_source ?c_law_source ?k_law_source ?a_law ?l_law ?c_law ?k_law ?b_bool ?b_enumerate ?b_int ?b_isinstance ?b_len ?b_list ?b_max ?b_min ?b_range ?b_tuple ?g_MOST_SHIFT ?g_MOST_THREADS ?xa_KernelError ?xq_KernelError ?xk_KernelError ?xb_KernelError ?xt_KernelError ?xa_NoQuantum ?xq_NoQuantum ?xk_NoQuantum ?xb_NoQuantum ?xt_NoQuantum ?xa_NoRate ?xq_NoRate ?xk_NoRate ?xb_NoRate ?xt_NoRate ?xa_NoThread ?xq_NoThread ?xk_NoThread ?xb_NoThread ?xt_NoThread ?xa_NoTick ?xq_NoTick ?xk_NoTick ?xb_NoTick ?xt_NoTick
    (case a_law_due => k_is)
    (case l_law_due => k_is)
    (case c_law_due => k_is)
    (case k_law_due => k_is)
    (case a_law_mixed => k_is)
    (case l_law_mixed => k_is)
    (case c_law_mixed => k_is)
    (case k_law_mixed => k_is)
    (case a_law_next => k_is)
    (case l_law_next => k_is)
    (case c_law_next => k_is)
    (case k_law_next => k_is)
    (case a_law_great => k_is)
    (case l_law_great => k_is)
    (case c_law_great => k_is)
    (case k_law_great => k_is)
    (case a_is_whole => k_is)
    (case l_is_whole => k_is)
    (case c_is_whole => k_is)
    (case k_is_whole => k_is)
    (case t_is_whole => k_is)
    (case u_is_whole => first | rfl | k_is)
    (case v_is_whole => exact .cons rfl .nil)
    (case a_power => k_is)
    (case l_power => k_is)
    (case c_power => k_is)
    (case k_power => k_is)
    (case a_is_mult => k_is)
    (case l_is_mult => k_is)
    (case c_is_mult => k_is)
    (case k_is_mult => k_is)
    (case a_is_shift => k_is)
    (case l_is_shift => k_is)
    (case c_is_shift => k_is)
    (case k_is_shift => k_is)
    (case a_check_rate => k_is)
    (case l_check_rate => k_is)
    (case c_check_rate => k_is)
    (case k_check_rate => k_is)
    (case a_common_divisor => k_is)
    (case l_common_divisor => k_is)
    (case c_common_divisor => k_is)
    (case k_common_divisor => k_is)
    (case a_never_sampled => k_is)
    (case l_never_sampled => k_is)
    (case c_never_sampled => k_is)
    (case k_never_sampled => k_is)
    (case a_law_far_right => k_is)
    (case l_law_far_right => k_is)
    (case c_law_far_right => k_is)
    (case k_law_far_right => k_is)
    (case a_law_one => k_is)
    (case l_law_one => k_is)
    (case c_law_one => k_is)
    (case k_law_one => k_is)
    (case a_law_plain_right => k_is)
    (case l_law_plain_right => k_is)
    (case c_law_plain_right => k_is)
    (case k_law_plain_right => k_is)
    (case a_law_source => k_is)
    (case l_law_source => k_is)
    (case c_law_source => k_is)
    (case k_law_source => k_is)
    (case a_law => k_is)
    (case l_law => k_is)
    (case c_law => k_is)
    (case k_law => k_is)
    (case b_bool => k_is)
    (case b_enumerate => k_is)
    (case b_int => k_is)
    (case b_isinstance => k_is)
    (case b_len => k_is)
    (case b_list => k_is)
    (case b_max => k_is)
    (case b_min => k_is)
    (case b_range => k_is)
    (case b_tuple => k_is)
    (case g_MOST_SHIFT => k_is)
    (case g_MOST_THREADS => k_is)
    (case xa_KernelError => k_is)
    (case xq_KernelError => k_exc)
    (case xk_KernelError => k_is)
    (case xb_KernelError => k_is)
    (case xt_KernelError => k_is)
    (case xa_NoQuantum => k_is)
    (case xq_NoQuantum => k_exc)
    (case xk_NoQuantum => k_is)
    (case xb_NoQuantum => k_is)
    (case xt_NoQuantum => k_is)
    (case xa_NoRate => k_is)
    (case xq_NoRate => k_exc)
    (case xk_NoRate => k_is)
    (case xb_NoRate => k_is)
    (case xt_NoRate => k_is)
    (case xa_NoThread => k_is)
    (case xq_NoThread => k_exc)
    (case xk_NoThread => k_is)
    (case xb_NoThread => k_is)
    (case xt_NoThread => k_is)
    (case xa_NoTick => k_is)
    (case xq_NoTick => k_exc)
    (case xk_NoTick => k_is)
    (case xb_NoTick => k_is)
    (case xt_NoTick => k_is)
