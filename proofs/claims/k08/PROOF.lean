import PyProof.Rows.All
import Wide.All
import OpenK.AllK
import Wide.FinOn
import HandS.ForMost
import HandS.ForExc
import HandS.WideBits
import HandS.TryMany
import HandS.ExcIs
import HandS.IsInst
import HandS.EndBits
import HandS.Flow
import HandS.Zip
import HandS.Defaults
import HandS.Lambda
import HandS.EndTab
import HandS.SortRule
import HandS.SortInts
import HandS.Conv
import HandS.Style
import KE.DataCmp
import HandS.Deep
import HandS.Dict
import KE.DataMinMax
import HandS.More
import HandS.DictSubView
import HandS.Iter
import PyProof.SumWalk
import HandS.SetFor
import PyProof.ReprRoads
import PySem.Challenge.RW_timekernel_k08_rates_refused
set_option Elab.async false
set_option linter.all false
set_option maxRecDepth 100000
set_option maxHeartbeats 4000000
/-! L3: functional mirrors of defs over an own heap (a list of objects), and their walk over the hand layer. -/
namespace L3
open PySem L2

/-- the tables of code objects of the defs that make lambdas; the references that stay while a closure is about -/
class TabT where
  T : List (Addr × Str)
/-- a lambda's words, and the cells that it captured -/
structure LamD where
  qual : Str
  params : Arguments
  body : Expr
  scope : Scope
  cl : List (Str × Addr)
/-- the object at a is the function that a lambda made, its code object stands at c -/
def LamO (a : Addr) (D : LamD) (c : Addr) : HO := .ext fun h => ∃ pm ctv : Value, h.get? a = some (PySem.W.kla_obj "<lambda>" D.qual D.params D.body D.scope D.cl pm c ctv)
class LamT where
  r0 : List Addr
  cs : List (Addr × Str)
  fn : Nat → Nat → Option LamD
variable [TabT] [LamT]
/-- a value of the mirror: ref n, the n-th object of the mirror's heap; gl a, an object of the heap itself, by its address -/
inductive IV where
  | non | bl (b : Bool) | int (i : Int) | str (x : Str) | ref (n : Nat) | gl (a : Addr) | ty (n : String)
  deriving DecidableEq
def IV.toV : IV → V
  | .non => .non
  | .bl b => .bl b
  | .int i => .int i
  | .str x => .str x
  | .ref _ => .non
  | .gl a => .ref a
  | .ty n => .ty n
/-- an object of the mirror's heap; ro: a list that is only read; rot: a tuple of the written part -/
inductive MO where
  | lst (xs : List IV) | tup (xs : List IV) | ro (xs : List IV) | rot (xs : List IV) | dct | clo | dk (kvs : List (Key × IV)) | fn (e j : Nat)
  deriving DecidableEq
abbrev IH := List MO
abbrev Env := List (Option IV)
inductive Res (α : Type) where
  | ok (a : α) (ih : IH) | exc (c : Addr) (ih : IH) | stuck
inductive Fl where
  | next (env : Env) | brk (env : Env) | cont (env : Env) | ret (v : IV)
inductive RS where
  | ok (f : Fl) (ih : IH) | exc (c : Addr) (env : Env) (ih : IH) | stuck
def Res.bind {α β : Type} (r : Res α) (k : α → IH → Res β) : Res β := match r with
  | .ok a ih => k a ih
  | .exc c ih => .exc c ih
  | .stuck => .stuck
@[simp] theorem Res.bind_ok {α β : Type} (a : α) (ih : IH) (k : α → IH → Res β) : (Res.ok a ih).bind k = k a ih := rfl
@[simp] theorem Res.bind_exc {α β : Type} (c : Addr) (ih : IH) (k : α → IH → Res β) : (Res.exc c ih).bind k = .exc c ih := rfl
@[simp] theorem Res.bind_stuck {α β : Type} (k : α → IH → Res β) : (Res.stuck : Res α).bind k = .stuck := rfl
/-- an expression's result within a statement -/
def Res.stm {α : Type} (r : Res α) (env : Env) (k : α → IH → RS) : RS := match r with
  | .ok a ih => k a ih
  | .exc c ih => .exc c env ih
  | .stuck => .stuck
@[simp] theorem Res.stm_ok {α : Type} (a : α) (ih : IH) (env : Env) (k : α → IH → RS) : (Res.ok a ih).stm env k = k a ih := rfl
@[simp] theorem Res.stm_exc {α : Type} (c : Addr) (ih : IH) (env : Env) (k : α → IH → RS) : (Res.exc c ih : Res α).stm env k = .exc c env ih := rfl
@[simp] theorem Res.stm_stuck {α : Type} (env : Env) (k : α → IH → RS) : (Res.stuck : Res α).stm env k = .stuck := rfl

/-! ### what the mirror's heap says of the heap -/
def R (r : List Addr) (x : IV) (y : V) : Prop := match x with
  | .ref n => ∃ a, r[n]? = some a ∧ y = .ref a
  | z => y = z.toV
def Rs (r : List Addr) : List IV → List V → Prop := Paired (R r)
def RK (r : List Addr) : List (Key × IV) → List (Key × V) → Prop := Paired fun p q => p.1 = q.1 ∧ R r p.2 q.2
def RO (K : PySem.W.Frag) (r : List Addr) (H : Hp) (a : Addr) : MO → Prop
  | .lst xs => ∃ ys, H a = some (.lst ys) ∧ Rs r xs ys
  | .tup xs => ∃ ys, H a = some (.tup ys) ∧ Rs r xs ys
  | .ro xs => ∃ ys, ((∃ o, H a = some (.frz o (.lst ys))) ∨ SqL K (fun _ => none) a ys) ∧ Rs r xs ys
  | .rot xs => ∃ ys, SqT K (fun _ => none) a ys ∧ Rs r xs ys
  | .dct => ∃ kvs, H a = some (.dK kvs)
  | .dk kvs => ∃ ys, H a = some (.dK ys) ∧ RK r kvs ys
  | .clo => True
  | .fn e j => ∀ D, LamT.fn e j = some D → ∃ c, H a = some (LamO a D c) ∧ H c = some (LamX.CodeO c D.qual)
def still : MO → Bool
  | .lst _ => false
  | .tup _ => false
  | .ro _ => true
  | .rot _ => true
  | .dct => false
  | .dk _ => false
  | .clo => true
  | .fn _ _ => true
structure Rel (K : PySem.W.Frag) (r : List Addr) (ih : IH) (H : Hp) : Prop where
  len : r.length = ih.length
  get : ∀ (n : Nat) (a : Addr) (o : MO), r[n]? = some a → ih[n]? = some o → RO K r H a o
  inj : ∀ (n m : Nat) (a : Addr) (o u : MO), r[n]? = some a → r[m]? = some a → ih[n]? = some o → ih[m]? = some u → still o = false → still u = false → n = m
  tab : LamX.Tabs TabT.T H
  pre : LamT.r0 <+: r
  cod : ∀ p ∈ LamT.cs, H p.1 = some (LamX.CodeO p.1 p.2)
  ep : ∀ (n e j : Nat), ih[n]? = some (.fn e j) → e ≤ n
  top : ∀ (e j : Nat), ih.length ≤ e → LamT.fn e j = none
def REnv (r : List Addr) (env : Env) (σ : St) : Prop := env.length = σ.length ∧ ∀ (i : Nat) (v : IV), env[i]? = some (some v) → ∃ u, σ[i]? = some (some u) ∧ R r v u

theorem pre_get {r r' : List Addr} (p : r <+: r') {n : Nat} {a : Addr} (h : r[n]? = some a) : r'[n]? = some a := by
  obtain ⟨t, rfl⟩ := p
  rw [List.getElem?_append_left (List.getElem?_eq_some_iff.mp h).1]
  exact h
theorem R.mono {r r' : List Addr} (p : r <+: r') {x : IV} {y : V} (h : R r x y) : R r' x y := by
  cases x with
  | ref n =>
    obtain ⟨a, h1, h2⟩ := h
    exact ⟨a, pre_get p h1, h2⟩
  | _ => exact h
theorem Rs.mono {r r' : List Addr} (p : r <+: r') {xs : List IV} {ys : List V} (h : Rs r xs ys) : Rs r' xs ys := Paired.mapP h fun _ _ q => q.mono p
theorem RK.mono {r r' : List Addr} (p : r <+: r') {xs : List (Key × IV)} {ys : List (Key × V)} (h : RK r xs ys) : RK r' xs ys := Paired.mapP h fun _ _ q => ⟨q.1, q.2.mono p⟩
theorem REnv.mono {r r' : List Addr} (p : r <+: r') {env : Env} {σ : St} (h : REnv r env σ) : REnv r' env σ :=
  ⟨h.1, fun i v e => let ⟨u, h1, h2⟩ := h.2 i v e; ⟨u, h1, h2.mono p⟩⟩
theorem REnv.set {r : List Addr} {env : Env} {σ : St} (h : REnv r env σ) {x : IV} {y : V} (q : R r x y) (i : Nat) : REnv r (env.set i (some x)) (σ.set i (some y)) := by
  refine ⟨by rw [List.length_set, List.length_set, h.1], fun j v e => ?_⟩
  by_cases hj : i = j
  · subst hj
    by_cases hl : i < env.length
    · rw [List.getElem?_set_self hl] at e
      cases e
      exact ⟨y, List.getElem?_set_self (by rw [← h.1]; exact hl), q⟩
    · rw [List.getElem?_eq_none (by simpa using hl)] at e
      cases e
  · rw [List.getElem?_set_ne hj] at e
    obtain ⟨u, h1, h2⟩ := h.2 j v e
    exact ⟨u, by rw [List.getElem?_set_ne hj]; exact h1, h2⟩
theorem REnv.setN {r : List Addr} {env : Env} {σ : St} (h : REnv r env σ) (i : Nat) : REnv r (env.set i none) (σ.set i none) := by
  refine ⟨by rw [List.length_set, List.length_set, h.1], fun j v e => ?_⟩
  by_cases hj : i = j
  · subst hj
    by_cases hl : i < env.length
    · rw [List.getElem?_set_self hl] at e
      cases e
    · rw [List.getElem?_eq_none (by simpa using hl)] at e
      cases e
  · rw [List.getElem?_set_ne hj] at e
    obtain ⟨u, h1, h2⟩ := h.2 j v e
    exact ⟨u, by rw [List.getElem?_set_ne hj]; exact h1, h2⟩
def wipeI (env : Env) : List Nat → Env
  | [] => env
  | v :: vs => (wipeI env vs).set v none
theorem REnv.wipe {r : List Addr} {env : Env} {σ : St} (h : REnv r env σ) : ∀ vs : List Nat, REnv r (wipeI env vs) (wipe σ vs)
  | [] => h
  | v :: vs => (REnv.wipe h vs).setN v
theorem REnv.setO {r : List Addr} {env : Env} {σ : St} (h : REnv r env σ) (i : Nat) (y : Option V) : REnv r (env.set i none) (σ.set i y) := by
  refine ⟨by rw [List.length_set, List.length_set, h.1], fun j v e => ?_⟩
  by_cases hj : i = j
  · subst hj
    by_cases hl : i < env.length
    · rw [List.getElem?_set_self hl] at e
      cases e
    · rw [List.getElem?_eq_none (by simpa using hl)] at e
      cases e
  · rw [List.getElem?_set_ne hj] at e
    obtain ⟨u, h1, h2⟩ := h.2 j v e
    exact ⟨u, by rw [List.getElem?_set_ne hj]; exact h1, h2⟩

theorem Rs.get {r : List Addr} : ∀ {xs : List IV} {ys : List V} {i : Nat} {x : IV}, Rs r xs ys → xs[i]? = some x → ∃ y, ys[i]? = some y ∧ R r x y
  | _, _, _, _, .nil, e => by simp at e
  | _, _, 0, _, .cons q _, e => by simp at e; subst e; exact ⟨_, rfl, q⟩
  | _, _, i + 1, x, .cons _ t, e => by
    obtain ⟨u, h1, h2⟩ := Rs.get (i := i) (x := x) t (by simpa using e)
    exact ⟨u, by simpa using h1, h2⟩
theorem Rs.length {r : List Addr} {xs : List IV} {ys : List V} (h : Rs r xs ys) : xs.length = ys.length := Paired.length h
theorem Rs.append {r : List Addr} : ∀ {xs ys : List IV} {us ws : List V}, Rs r xs us → Rs r ys ws → Rs r (xs ++ ys) (us ++ ws)
  | _, _, _, _, .nil, s => s
  | _, _, _, _, .cons q t, s => .cons q (Rs.append t s)
theorem Rs.set {r : List Addr} {x : IV} {u : V} (q : R r x u) : ∀ {xs : List IV} {us : List V} (i : Nat), Rs r xs us → Rs r (xs.set i x) (us.set i u)
  | _, _, _, .nil => .nil
  | _, _, 0, .cons _ t => .cons q t
  | _, _, i + 1, .cons q' t => .cons q' (Rs.set q i t)
theorem Rs.take {r : List Addr} : ∀ {xs : List IV} {us : List V} (n : Nat), Rs r xs us → Rs r (xs.take n) (us.take n)
  | _, _, 0, _ => .nil
  | _, _, _ + 1, .nil => .nil
  | _, _, n + 1, .cons q t => .cons q (Rs.take n t)
theorem Rs.drop {r : List Addr} : ∀ {xs : List IV} {us : List V} (n : Nat), Rs r xs us → Rs r (xs.drop n) (us.drop n)
  | _, _, 0, q => q
  | _, _, _ + 1, .nil => .nil
  | _, _, n + 1, .cons _ t => Rs.drop n t

theorem SqL.ofK {K : PySem.W.Frag} {H : Hp} {a : Addr} {ys : List V} (h : SqL K (fun _ => none) a ys) : SqL K H a ys := by
  rcases h with (h | ⟨o, h⟩) | h
  · cases h
  · cases h
  · exact .inr h
theorem SqT.ofK {K : PySem.W.Frag} {H : Hp} {a : Addr} {ys : List V} (h : SqT K (fun _ => none) a ys) : SqT K H a ys := by
  rcases h with (h | ⟨o, h⟩) | h
  · cases h
  · cases h
  · exact .inr h

section
variable {K : PySem.W.Frag} {r r' : List Addr} {ih ih' : IH} {H H' : Hp}
theorem Rel.at (h : Rel K r ih H) {n : Nat} {o : MO} (e : ih[n]? = some o) : ∃ a, r[n]? = some a ∧ RO K r H a o := by
  have hl := (List.getElem?_eq_some_iff.mp e).1
  have hr : n < r.length := by rw [h.len]; exact hl
  exact ⟨r[n], List.getElem?_eq_getElem hr, h.get n _ o (List.getElem?_eq_getElem hr) e⟩
theorem RO.mono (p : r <+: r') {a : Addr} {o : MO} (h : RO K r H a o) : RO K r' H a o := by
  cases o with
  | lst xs => obtain ⟨ys, h1, h2⟩ := h; exact ⟨ys, h1, h2.mono p⟩
  | tup xs => obtain ⟨ys, h1, h2⟩ := h; exact ⟨ys, h1, h2.mono p⟩
  | ro xs => obtain ⟨ys, h1, h2⟩ := h; exact ⟨ys, h1, h2.mono p⟩
  | rot xs => obtain ⟨ys, h1, h2⟩ := h; exact ⟨ys, h1, h2.mono p⟩
  | dct => exact h
  | dk kvs => obtain ⟨ys, h1, h2⟩ := h; exact ⟨ys, h1, h2.mono p⟩
  | clo => trivial
  | fn e j => exact h
/-- the object's own entry is all that counts (and what is told of functions) -/
theorem RO.heap {a : Addr} {o : MO} (h : RO K r H a o) (e : still o = true ∨ H' a = H a) (e2 : ∀ o' u, H a = some (.frz o' u) → H' a = some (.frz o' u)) (e3 : ∀ b φ, H b = some (.ext φ) → H' b = some (.ext φ)) : RO K r H' a o := by
  cases o with
  | lst xs =>
    obtain ⟨ys, h1, h2⟩ := h
    rcases e with e | e
    · cases e
    · exact ⟨ys, by rw [e]; exact h1, h2⟩
  | tup xs =>
    obtain ⟨ys, h1, h2⟩ := h
    rcases e with e | e
    · cases e
    · exact ⟨ys, by rw [e]; exact h1, h2⟩
  | ro xs =>
    obtain ⟨ys, h1, h2⟩ := h
    rcases h1 with ⟨o', h1⟩ | h1
    · exact ⟨ys, .inl ⟨o', e2 _ _ h1⟩, h2⟩
    · exact ⟨ys, .inr h1, h2⟩
  | rot xs => obtain ⟨ys, h1, h2⟩ := h; exact ⟨ys, h1, h2⟩
  | dct =>
    obtain ⟨kvs, h1⟩ := h
    rcases e with e | e
    · cases e
    · exact ⟨kvs, by rw [e]; exact h1⟩
  | dk kvs =>
    obtain ⟨ys, h1, h2⟩ := h
    rcases e with e | e
    · cases e
    · exact ⟨ys, by rw [e]; exact h1, h2⟩
  | clo => trivial
  | fn e j =>
    intro D hD
    obtain ⟨c, h1, h2⟩ := h D hD
    exact ⟨c, e3 _ _ h1, e3 _ _ h2⟩
/-- a new object -/
theorem Rel.new (h : Rel K r ih H) {p : Addr} (hp : H p = none) {o : MO} {u : HO} (hs : still o = false) (ho : ∀ H', H' p = some u → RO K r H' p o) : Rel K (r ++ [p]) (ih ++ [o]) (upd H p u) := by
  have pre : r <+: r ++ [p] := ⟨[p], rfl⟩
  have ex3 : ∀ b φ, H b = some (.ext φ) → upd H p u b = some (.ext φ) := fun b φ z => (upd_ne (ne_of_none z hp)).trans z
  have off : ∀ {n : Nat} {b : Addr}, (r ++ [p])[n]? = some b → r[n]? = some b ∨ (n = r.length ∧ b = p) := fun {n b} e => by
    by_cases hn : n < r.length
    · rw [List.getElem?_append_left hn] at e
      exact .inl e
    · rw [List.getElem?_append_right (by omega)] at e
      have hz : n - r.length = 0 := by
        by_cases hz : n - r.length = 0
        · exact hz
        · rw [List.getElem?_eq_none (by simp; omega)] at e
          cases e
      rw [hz] at e
      cases e
      exact .inr ⟨by omega, rfl⟩
  have ofi : ∀ {n : Nat} {x : MO}, n < r.length → (ih ++ [o])[n]? = some x → ih[n]? = some x := fun {n x} hn e => by
    rw [List.getElem?_append_left (by rw [← h.len]; exact hn)] at e
    exact e
  refine ⟨by rw [List.length_append, List.length_append, h.len]; rfl, fun n a x e1 e2 => ?_, fun n m a x y e1 e2 e3 e4 s1 s2 => ?_, h.tab.ext fun b o e => (upd_ne (ne_of_none e hp)).trans e, h.pre.trans pre, fun q hq => (upd_ne (ne_of_none (h.cod q hq) hp)).trans (h.cod q hq), fun n e j g => ?_, fun e j g => h.top e j (by rw [List.length_append] at g; omega)⟩
  rotate_right
  · by_cases hn : n < ih.length
    · rw [List.getElem?_append_left hn] at g
      exact h.ep n e j g
    · rw [List.getElem?_append_right (by omega)] at g
      have hz : n - ih.length = 0 := by
        by_cases hz : n - ih.length = 0
        · exact hz
        · rw [List.getElem?_eq_none (by simp; omega)] at g
          cases g
      rw [hz] at g
      cases g
      cases hs
  · rcases off e1 with e | ⟨e, rfl⟩
    · have hn := (List.getElem?_eq_some_iff.mp e).1
      have q := h.get n a x e (ofi hn e2)
      by_cases ha : a = p
      · subst ha
        refine (q.heap (H' := upd H a u) ?_ (fun o' u' z => by rw [hp] at z; cases z) ex3).mono pre
        cases x with
        | lst xs => obtain ⟨ys, z, _⟩ := q; rw [hp] at z; cases z
        | tup xs => obtain ⟨ys, z, _⟩ := q; rw [hp] at z; cases z
        | ro xs => exact .inl rfl
        | rot xs => exact .inl rfl
        | clo => exact .inl rfl
        | fn e j => exact .inl rfl
        | dct => obtain ⟨kvs, z⟩ := q; rw [hp] at z; cases z
        | dk kvs => obtain ⟨ys, z, _⟩ := q; rw [hp] at z; cases z
      · exact (q.heap (H' := upd H p u) (.inr (upd_ne ha)) (fun o' u' z => by rw [upd_ne ha]; exact z) ex3).mono pre
    · subst e
      rw [h.len, List.getElem?_append_right (Nat.le_refl _), Nat.sub_self] at e2
      cases e2
      exact (ho _ upd_same).mono pre
  · have low : ∀ {n : Nat} {x : MO}, r[n]? = some p → (ih ++ [o])[n]? = some x → still x = false → False := fun {n x} z1 z2 z3 => by
      have hn := (List.getElem?_eq_some_iff.mp z1).1
      have q := h.get n p x z1 (ofi hn z2)
      cases x with
      | lst xs => obtain ⟨ys, z, _⟩ := q; rw [hp] at z; cases z
      | tup xs => obtain ⟨ys, z, _⟩ := q; rw [hp] at z; cases z
      | ro xs => cases z3
      | rot xs => cases z3
      | clo => cases z3
      | fn e j => cases z3
      | dct => obtain ⟨kvs, z⟩ := q; rw [hp] at z; cases z
      | dk kvs => obtain ⟨ys, z, _⟩ := q; rw [hp] at z; cases z
    rcases off e1 with z1 | ⟨z1, rfl⟩
    · rcases off e2 with z2 | ⟨z2, rfl⟩
      · exact h.inj n m a x y z1 z2 (ofi (List.getElem?_eq_some_iff.mp z1).1 e3) (ofi (List.getElem?_eq_some_iff.mp z2).1 e4) s1 s2
      · exact (low z1 e3 s1).elim
    · rcases off e2 with z2 | ⟨z2, _⟩
      · exact (low z2 e4 s2).elim
      · rw [z1, z2]
/-- a list is written -/
theorem Rel.write (h : Rel K r ih H) {n : Nat} {a : Addr} {xs xs' : List IV} {ys : List V} (e1 : r[n]? = some a) (e2 : ih[n]? = some (.lst xs)) (q : Rs r xs' ys) :
    Rel K r (ih.set n (.lst xs')) (upd H a (.lst ys)) := by
  have hn := (List.getElem?_eq_some_iff.mp e2).1
  obtain ⟨zs, hz, _⟩ := h.get n a _ e1 e2
  have ex3 : ∀ b φ, H b = some (.ext φ) → upd H a (.lst ys) b = some (.ext φ) := fun b φ z => (upd_ne (ne_of z hz fun q => nomatch q)).trans z
  refine ⟨by rw [List.length_set]; exact h.len, fun m b x g1 g2 => ?_, fun m l b x y g1 g2 g3 g4 s1 s2 => ?_, fun p hp => ?_, h.pre, fun p hp => (upd_ne (ne_of (h.cod p hp) hz fun z => by unfold LamX.CodeO at z; cases z)).trans (h.cod p hp), fun m e j g => ?_, fun e j g => h.top e j (by rw [List.length_set] at g; exact g)⟩
  rotate_right
  · by_cases hm : n = m
    · subst hm
      rw [List.getElem?_set_self hn] at g
      cases g
    · rw [List.getElem?_set_ne hm] at g
      exact h.ep m e j g
  rotate_right
  · obtain ⟨ps, t1, t2, t3⟩ := h.tab p hp
    have ne : ∀ {b : Addr} {u : HO}, H b = some u → u ≠ .lst zs → upd H a (.lst ys) b = some u := fun {b u} e hu => (upd_ne (ne_of e hz hu)).trans e
    refine ⟨ps, ne t1 (fun z => nomatch z), t2, fun pos cv hc => ?_⟩
    obtain ⟨c, e, ec⟩ := t3 pos cv hc
    exact ⟨c, e, ne ec fun z => by unfold LamX.CodeO at z; cases z⟩
  · by_cases hm : n = m
    · subst hm
      rw [List.getElem?_set_self hn] at g2
      cases g2
      rw [e1] at g1
      cases g1
      exact ⟨ys, upd_same, q⟩
    · rw [List.getElem?_set_ne hm] at g2
      have w := h.get m b x g1 g2
      by_cases hb : b = a
      · subst hb
        refine w.heap ?_ (fun o' u' z => by rw [hz] at z; cases z) ex3
        cases hs : still x with
        | true => exact .inl rfl
        | false => exact absurd (h.inj n m b _ _ e1 g1 e2 g2 rfl hs) hm
      · exact w.heap (.inr (upd_ne hb)) (fun o' u' z => by rw [upd_ne hb]; exact z) ex3
  · have back : ∀ {m : Nat} {x : MO}, (ih.set n (.lst xs'))[m]? = some x → still x = false → ∃ x', ih[m]? = some x' ∧ still x' = false := fun {m x} g s => by
      by_cases hm : n = m
      · subst hm
        exact ⟨_, e2, rfl⟩
      · rw [List.getElem?_set_ne hm] at g
        exact ⟨x, g, s⟩
    obtain ⟨x', z1, z2⟩ := back g3 s1
    obtain ⟨y', z3, z4⟩ := back g4 s2
    exact h.inj m l b _ _ g1 g2 z1 z3 z2 z4
/-- a dict is written -/
theorem Rel.writeD (h : Rel K r ih H) {n : Nat} {a : Addr} {xs xs' : List (Key × IV)} {ys : List (Key × V)} (e1 : r[n]? = some a) (e2 : ih[n]? = some (.dk xs)) (q : RK r xs' ys) :
    Rel K r (ih.set n (.dk xs')) (upd H a (.dK ys)) := by
  have hn := (List.getElem?_eq_some_iff.mp e2).1
  obtain ⟨zs, hz, _⟩ := h.get n a _ e1 e2
  have ex3 : ∀ b φ, H b = some (.ext φ) → upd H a (.dK ys) b = some (.ext φ) := fun b φ z => (upd_ne (ne_of z hz fun q => nomatch q)).trans z
  refine ⟨by rw [List.length_set]; exact h.len, fun m b x g1 g2 => ?_, fun m l b x y g1 g2 g3 g4 s1 s2 => ?_, fun p hp => ?_, h.pre, fun p hp => (upd_ne (ne_of (h.cod p hp) hz fun z => by unfold LamX.CodeO at z; cases z)).trans (h.cod p hp), fun m e j g => ?_, fun e j g => h.top e j (by rw [List.length_set] at g; exact g)⟩
  rotate_right
  · by_cases hm : n = m
    · subst hm
      rw [List.getElem?_set_self hn] at g
      cases g
    · rw [List.getElem?_set_ne hm] at g
      exact h.ep m e j g
  rotate_right
  · obtain ⟨ps, t1, t2, t3⟩ := h.tab p hp
    have ne : ∀ {b : Addr} {u : HO}, H b = some u → u ≠ .dK zs → upd H a (.dK ys) b = some u := fun {b u} e hu => (upd_ne (ne_of e hz hu)).trans e
    refine ⟨ps, ne t1 (fun z => nomatch z), t2, fun pos cv hc => ?_⟩
    obtain ⟨c, e, ec⟩ := t3 pos cv hc
    exact ⟨c, e, ne ec fun z => by unfold LamX.CodeO at z; cases z⟩
  · by_cases hm : n = m
    · subst hm
      rw [List.getElem?_set_self hn] at g2
      cases g2
      rw [e1] at g1
      cases g1
      exact ⟨ys, upd_same, q⟩
    · rw [List.getElem?_set_ne hm] at g2
      have w := h.get m b x g1 g2
      by_cases hb : b = a
      · subst hb
        refine w.heap ?_ (fun o' u' z => by rw [hz] at z; cases z) ex3
        cases hs : still x with
        | true => exact .inl rfl
        | false => exact absurd (h.inj n m b _ _ e1 g1 e2 g2 rfl hs) hm
      · exact w.heap (.inr (upd_ne hb)) (fun o' u' z => by rw [upd_ne hb]; exact z) ex3
  · have back : ∀ {m : Nat} {x : MO}, (ih.set n (.dk xs'))[m]? = some x → still x = false → ∃ x', ih[m]? = some x' ∧ still x' = false := fun {m x} g s => by
      by_cases hm : n = m
      · subst hm
        exact ⟨_, e2, rfl⟩
      · rw [List.getElem?_set_ne hm] at g
        exact ⟨x, g, s⟩
    obtain ⟨x', z1, z2⟩ := back g3 s1
    obtain ⟨y', z3, z4⟩ := back g4 s2
    exact h.inj m l b _ _ g1 g2 z1 z3 z2 z4
end
end L3
/-! L3b: mirrors as readings; expressions. -/
namespace L3
variable [TabT] [LamT]
open PySem L2

/-! ### readings made of mirrors -/
/-- what is wanted of an expression's result -/
def PGen {α β : Type} (rel : List Addr → α → β → Prop) (K : PySem.W.Frag) (W : WX) (σ : St) (r : List Addr) (res : Res α) (Q : β → Hp → Prop) : Prop := match res with
  | .ok v ih => ∀ r' H u, r <+: r' → Rel K r' ih H → rel r' v u → Q u H
  | .exc c ih => ∀ r' H, r <+: r' → Rel K r' ih H → W (.ref c) none σ H
  | .stuck => False
def tG {α β : Type} (rel : List Addr → α → β → Prop) (K : PySem.W.Frag) (W : WX) (m : Env → IH → Res α) : St → Hp → (β → Hp → Prop) → Prop := fun σ H Q =>
  ∃ r ih env, Rel K r ih H ∧ REnv r env σ ∧ PGen rel K W σ r (m env ih) Q
abbrev Bq (_ : List Addr) (a b : Bool) : Prop := b = a
/-- an optional int of a slice -/
abbrev Oq (_ : List Addr) (a b : Option Int) : Prop := b = a
abbrev tM (K : PySem.W.Frag) (W : WX) (m : Env → IH → Res IV) : TE := tG R K W m
abbrev tMT (K : PySem.W.Frag) (W : WX) (m : Env → IH → Res Bool) : TT := tG Bq K W m
abbrev tMA (K : PySem.W.Frag) (W : WX) (m : Env → IH → Res (List IV)) : TA := tG Rs K W m
def PStm (K : PySem.W.Frag) (W : WX) (r : List Addr) (res : RS) (D : Ends) : Prop := match res with
  | .ok (.next env) ih => ∀ r' H σ, r <+: r' → Rel K r' ih H → REnv r' env σ → D.nx σ H
  | .ok (.brk env) ih => ∀ r' H σ, r <+: r' → Rel K r' ih H → REnv r' env σ → D.bk σ H
  | .ok (.cont env) ih => ∀ r' H σ, r <+: r' → Rel K r' ih H → REnv r' env σ → D.ct σ H
  | .ok (.ret v) ih => ∀ r' H u, r <+: r' → Rel K r' ih H → R r' v u → D.rt u H
  | .exc c env ih => ∀ r' H σ, r <+: r' → Rel K r' ih H → REnv r' env σ → W (.ref c) none σ H
  | .stuck => False
def tMS (K : PySem.W.Frag) (W : WX) (m : Env → IH → RS) : TS := fun D σ H => ∃ r ih env, Rel K r ih H ∧ REnv r env σ ∧ PStm K W r (m env ih) D

theorem pre_refl (r : List Addr) : r <+: r := ⟨[], List.append_nil r⟩
theorem pre_trans {a b c : List Addr} (h : a <+: b) (k : b <+: c) : a <+: c := by
  obtain ⟨x, rfl⟩ := h
  obtain ⟨y, rfl⟩ := k
  exact ⟨x ++ y, (List.append_assoc _ _ _).symm⟩
section
variable {K : PySem.W.Frag} {W : WX} {σ : St} {H : Hp} {r r' : List Addr} {ih ih' : IH} {env : Env}
theorem PGen.mono {α β : Type} {rel : List Addr → α → β → Prop} {res : Res α} {Q : β → Hp → Prop} (p : r <+: r') (h : PGen rel K W σ r res Q) : PGen rel K W σ r' res Q := by
  cases res with
  | ok v ih => exact fun r2 H u p2 a b => h r2 H u (pre_trans p p2) a b
  | exc c ih => exact fun r2 H p2 a => h r2 H (pre_trans p p2) a
  | stuck => exact h
theorem PStm.mono {res : RS} {D : Ends} (p : r <+: r') (h : PStm K W r res D) : PStm K W r' res D := by
  cases res with
  | ok f ih =>
    cases f with
    | next e => exact fun r2 H u p2 a b => h r2 H u (pre_trans p p2) a b
    | brk e => exact fun r2 H u p2 a b => h r2 H u (pre_trans p p2) a b
    | cont e => exact fun r2 H u p2 a b => h r2 H u (pre_trans p p2) a b
    | ret e => exact fun r2 H u p2 a b => h r2 H u (pre_trans p p2) a b
  | exc c e ih => exact fun r2 H u p2 a b => h r2 H u (pre_trans p p2) a b
  | stuck => exact h
/-- what is known behind a part -/
def Got {α β : Type} (rel : List Addr → α → β → Prop) (K : PySem.W.Frag) (r : List Addr) (P : List Addr → IH → α → Prop) (u : β) (H : Hp) : Prop := ∃ r1 ih1 v, r <+: r1 ∧ Rel K r1 ih1 H ∧ rel r1 v u ∧ P r1 ih1 v
/-- the first part of a bind -/
theorem tG_bind {α β γ δ : Type} {rel1 : List Addr → α → β → Prop} {rel2 : List Addr → γ → δ → Prop} {m : Env → IH → Res α} {k : α → IH → Res γ} {Q : δ → Hp → Prop} (hr : Rel K r ih H) (he : REnv r env σ)
    (h : PGen rel2 K W σ r ((m env ih).bind k) Q) : tG rel1 K W m σ H (Got rel1 K r fun r1 ih1 v => PGen rel2 K W σ r1 (k v ih1) Q) := by
  refine ⟨r, ih, env, hr, he, ?_⟩
  cases e : m env ih with
  | ok v ih1 =>
    rw [e] at h
    exact fun r1 H1 u p a b => ⟨r1, ih1, v, p, a, b, PGen.mono p h⟩
  | exc c ih1 =>
    rw [e] at h
    exact fun r1 H1 p a => h r1 H1 p a
  | stuck =>
    rw [e] at h
    exact h
theorem tG_stm {α β : Type} {rel1 : List Addr → α → β → Prop} {m : Env → IH → Res α} {k : α → IH → RS} {D : Ends} (hr : Rel K r ih H) (he : REnv r env σ)
    (h : PStm K W r ((m env ih).stm env k) D) : tG rel1 K W m σ H (Got rel1 K r fun r1 ih1 v => PStm K W r1 (k v ih1) D) := by
  refine ⟨r, ih, env, hr, he, ?_⟩
  cases e : m env ih with
  | ok v ih1 =>
    rw [e] at h
    exact fun r1 H1 u p a b => ⟨r1, ih1, v, p, a, b, PStm.mono p h⟩
  | exc c ih1 =>
    rw [e] at h
    exact fun r1 H1 p a => h r1 H1 σ p a (he.mono p)
  | stuck =>
    rw [e] at h
    exact h
theorem tG_end {α β : Type} {rel : List Addr → α → β → Prop} {v : α} {u : β} {Q : β → Hp → Prop} (h : PGen rel K W σ r (.ok v ih) Q) (hr : Rel K r ih H) (q : rel r v u) : Q u H := h r H u (pre_refl r) hr q
end
theorem tG.imp {α β : Type} {rel : List Addr → α → β → Prop} {K : PySem.W.Frag} {W : WX} {m : Env → IH → Res α} {σ : St} {H : Hp} {Q Q' : β → Hp → Prop} (h : tG rel K W m σ H Q) (w : ∀ u H', Q u H' → Q' u H') : tG rel K W m σ H Q' := by
  obtain ⟨r, ih, env, h1, h2, h3⟩ := h
  refine ⟨r, ih, env, h1, h2, ?_⟩
  cases e : m env ih with
  | ok v ih1 => rw [e] at h3; exact fun r' H' u p a b => w _ _ (h3 r' H' u p a b)
  | exc c ih1 => rw [e] at h3; exact h3
  | stuck => rw [e] at h3; exact h3
/-- a reading, weaker -/
theorem PE.of {X : Cx} {e : Expr} {t t' : TE} (h : PE X e t) (w : ∀ σ H Q, t' σ H Q → t σ H Q) : PE X e t' := ⟨fun pins s σ H Q I q => h.run pins s σ H Q I (w σ H Q q)⟩
theorem PT.of {X : Cx} {e : Expr} {t t' : TT} (h : PT X e t) (w : ∀ σ H Q, t' σ H Q → t σ H Q) : PT X e t' := ⟨fun pins s σ H Q I q => h.run pins s σ H Q I (w σ H Q q)⟩
theorem PW.of {X : Cx} {e : Expr} {t t' : TT} (h : PW X e t) (w : ∀ σ H Q, t' σ H Q → t σ H Q) : PW X e t' := ⟨fun wh pins s σ H Q I q => h.run wh pins s σ H Q I (w σ H Q q)⟩
theorem PA.of {X : Cx} {e : List Expr} {t t' : TA} (h : PA X e t) (w : ∀ σ H Q, t' σ H Q → t σ H Q) : PA X e t' := ⟨fun pos pins s σ H Q I q => h.run pos pins s σ H Q I (w σ H Q q)⟩
theorem PS.of {X : Cx} {e : Stmt} {t t' : TS} (h : PS X e t) (w : ∀ D σ H, t' D σ H → t D σ H) : PS X e t' := ⟨fun pins s σ H D I q => h.run pins s σ H D I (w D σ H q)⟩
theorem PSs.of {X : Cx} {e : List Stmt} {t t' : TS} (h : PSs X e t) (w : ∀ D σ H, t' D σ H → t D σ H) : PSs X e t' := ⟨fun pins s σ H D I q => h.run pins s σ H D I (w D σ H q)⟩

/-! ### mirrors of expressions -/
def m_var (i : Nat) (env : Env) (ih : IH) : Res IV := match env[i]? with
  | some (some v) => .ok v ih
  | _ => .stuck
def m_c (v : IV) (_ : Env) (ih : IH) : Res IV := .ok v ih
def m_op (f : IV → IV → IH → Res IV) (ma mb : Env → IH → Res IV) (env : Env) (ih : IH) : Res IV := (ma env ih).bind fun x ih1 => (mb env ih1).bind fun y ih2 => f x y ih2
def m_un (f : IV → IH → Res IV) (ma : Env → IH → Res IV) (env : Env) (ih : IH) : Res IV := (ma env ih).bind f
def m_nil (_ : Env) (ih : IH) : Res (List IV) := .ok [] ih
def m_cons (ma : Env → IH → Res IV) (mr : Env → IH → Res (List IV)) (env : Env) (ih : IH) : Res (List IV) := (ma env ih).bind fun x ih1 => (mr env ih1).bind fun xs ih2 => .ok (x :: xs) ih2
def m_if (mt : Env → IH → Res Bool) (ma mb : Env → IH → Res IV) (env : Env) (ih : IH) : Res IV := (mt env ih).bind fun b ih1 => if b = true then ma env ih1 else mb env ih1
def m_and (ma mb : Env → IH → Res Bool) (env : Env) (ih : IH) : Res Bool := (ma env ih).bind fun b ih1 => if b = true then mb env ih1 else .ok false ih1
def m_or (ma mb : Env → IH → Res Bool) (env : Env) (ih : IH) : Res Bool := (ma env ih).bind fun b ih1 => if b = true then .ok true ih1 else mb env ih1
def m_not (ma : Env → IH → Res Bool) (env : Env) (ih : IH) : Res Bool := (ma env ih).bind fun b ih1 => .ok (!b) ih1
def m_tb (ma : Env → IH → Res IV) (env : Env) (ih : IH) : Res Bool := (ma env ih).bind fun v ih1 => match v with
  | .bl b => .ok b ih1
  | _ => .stuck
def m_andV (ma mb : Env → IH → Res IV) (env : Env) (ih : IH) : Res IV := (ma env ih).bind fun v ih1 => match v with
  | .bl b => if b = true then mb env ih1 else .ok (.bl false) ih1
  | _ => .stuck
def m_orV (ma mb : Env → IH → Res IV) (env : Env) (ih : IH) : Res IV := (ma env ih).bind fun v ih1 => match v with
  | .bl b => if b = true then .ok (.bl true) ih1 else mb env ih1
  | _ => .stuck
def m_notV (ma : Env → IH → Res IV) (env : Env) (ih : IH) : Res IV := (ma env ih).bind fun v ih1 => match v with
  | .bl b => .ok (.bl (!b)) ih1
  | _ => .stuck
/-- a call of values -/
def m_app (f : List IV → IH → Res IV) (ma : Env → IH → Res (List IV)) (env : Env) (ih : IH) : Res IV := (ma env ih).bind f

/-- a two-place rule follows its mirror -/
def Snd2 (K : PySem.W.Frag) (W : WX) (rr : R2) (f : IV → IV → IH → Res IV) : Prop := ∀ (r : List Addr) (ih : IH) (H : Hp) (x y : IV) (u w : V) (σ : St) (Q : VK), Rel K r ih H → R r x u → R r y w → PGen R K W σ r (f x y ih) Q → rr u w H Q
def Snd1 (K : PySem.W.Frag) (W : WX) (rr : V → Hp → VK → Prop) (f : IV → IH → Res IV) : Prop := ∀ (r : List Addr) (ih : IH) (H : Hp) (x : IV) (u : V) (σ : St) (Q : VK), Rel K r ih H → R r x u → PGen R K W σ r (f x ih) Q → rr u H Q
def SndC (K : PySem.W.Frag) (W : WX) (rr : List V → Hp → VK → Prop) (f : List IV → IH → Res IV) : Prop := ∀ (r : List Addr) (ih : IH) (H : Hp) (xs : List IV) (us : List V) (σ : St) (Q : VK), Rel K r ih H → Rs r xs us → PGen R K W σ r (f xs ih) Q → rr us H Q

section
variable {X : Cx} {W : WX} {a b c : Expr} {ma mb mc : Env → IH → Res IV} {na nb : Env → IH → Res Bool} {pos : Pos}
theorem lm_var (i : Nat) {x : Str} (hN : X.N[i]? = some x := by rfl) (hv : Vis X.env.scope x := by first | exact Or.inl rfl | exact Or.inr (Or.inl rfl) | exact Or.inr (Or.inr rfl)) (hd : (x == ("__debug__" : Str)) = false := by decide)
    (hcd : (x == ("__classdict__" : Str)) = false := by decide) : PE X (.Name x pos) (tM X.K W (m_var i)) :=
  PE.of (pe_var hN hv hd hcd) fun σ H Q ⟨r, ih, env, hr, he, q⟩ => by
    unfold m_var at q
    split at q
    · rename_i v e
      obtain ⟨u, h1, h2⟩ := he.2 i v e
      exact ⟨u, h1, tG_end q hr h2⟩
    · exact q.elim
theorem lm_c {e : Expr} {w : V} (v : IV) (h : PE X e (tC w)) (hv : ∀ r, R r v w := by intro _; rfl) : PE X e (tM X.K W (m_c v)) :=
  PE.of h fun σ H Q ⟨r, ih, env, hr, he, q⟩ => tG_end q hr (hv r)
theorem lm_op {op : Operator} {rr : R2} {f : IV → IV → IH → Res IV} (ho : OpR X (binaryOp op) rr) (hf : Snd2 X.K W rr f) (ha : PE X a (tM X.K W ma)) (hb : PE X b (tM X.K W mb)) : PE X (.BinOp a op b pos) (tM X.K W (m_op f ma mb)) :=
  PE.of (pe_op ho ha hb) fun σ H Q ⟨r, ih, env, hr, he, q⟩ => tG.imp (tG_bind hr he q) fun u H1 ⟨r1, ih1, v, p, hr1, hv, q1⟩ =>
    tG.imp (tG_bind hr1 (he.mono p) q1) fun w H2 ⟨r2, ih2, y, p2, hr2, hy, q2⟩ => hf _ _ _ _ _ _ _ _ _ hr2 (hv.mono p2) hy q2
theorem lm_un {op : UnaryOp} {rr : V → Hp → VK → Prop} {f : IV → IH → Res IV} (ho : UnR X (unaryOp op) rr) (hf : Snd1 X.K W rr f) (ha : PE X a (tM X.K W ma)) : PE X (.UnaryOp op a pos) (tM X.K W (m_un f ma)) :=
  PE.of (pe_un ho ha) fun σ H Q ⟨r, ih, env, hr, he, q⟩ => tG.imp (tG_bind hr he q) fun u H1 ⟨r1, ih1, v, p, hr1, hv, q1⟩ => hf _ _ _ _ _ _ _ hr1 hv q1
theorem lm_ix {rr : R2} {f : IV → IV → IH → Res IV} (ho : IxR X rr) (hf : Snd2 X.K W rr f) (ha : PE X a (tM X.K W ma)) (hb : PE X b (tM X.K W mb)) (hs : PlainIx b := by exact fun _ _ => rfl) : PE X (.Subscript a b pos) (tM X.K W (m_op f ma mb)) :=
  PE.of (pe_ix ho ha hb hs) fun σ H Q ⟨r, ih, env, hr, he, q⟩ => tG.imp (tG_bind hr he q) fun u H1 ⟨r1, ih1, v, p, hr1, hv, q1⟩ =>
    tG.imp (tG_bind hr1 (he.mono p) q1) fun w H2 ⟨r2, ih2, y, p2, hr2, hy, q2⟩ => hf _ _ _ _ _ _ _ _ _ hr2 (hv.mono p2) hy q2
theorem lm_cmp {op : CmpOp} {rr : R2} {f : IV → IV → IH → Res IV} (ho : OpR X (compareOp op) rr) (hf : Snd2 X.K W rr f) (ha : PE X a (tM X.K W ma)) (hb : PE X b (tM X.K W mb)) (hm : behindInMarks op b = false := by first | exact nomark _ | rfl) : PE X (.Compare a [op] [b] pos) (tM X.K W (m_op f ma mb)) :=
  PE.of (pe_cmpR ho ha hb hm) fun σ H Q ⟨r, ih, env, hr, he, q⟩ => tG.imp (tG_bind hr he q) fun u H1 ⟨r1, ih1, v, p, hr1, hv, q1⟩ =>
    tG.imp (tG_bind hr1 (he.mono p) q1) fun w H2 ⟨r2, ih2, y, p2, hr2, hy, q2⟩ => hf _ _ _ _ _ _ _ _ _ hr2 (hv.mono p2) hy q2
/-- a value's truth that is a bool -/
theorem tb_core {m : Env → IH → Res IV} {σ : St} {H : Hp} {Q : Bool → Hp → Prop} (h : tMT X.K W (m_tb m) σ H Q) : tM X.K W m σ H fun x H1 => ∃ k, x = .bl k ∧ Q k H1 := by
  obtain ⟨r, ih, env, hr, he, q⟩ := h
  refine tG.imp (tG_bind hr he q) fun u H1 ⟨r1, ih1, v, p, hr1, hv, q1⟩ => ?_
  cases v with
  | bl b =>
    obtain rfl : u = .bl b := hv
    exact ⟨b, rfl, tG_end q1 hr1 rfl⟩
  | _ => exact q1.elim
/-- a test that is a comparison -/
theorem lt_cmp {op : CmpOp} {rr : R2} {f : IV → IV → IH → Res IV} (ho : OpR X (compareOp op) rr) (hf : Snd2 X.K W rr f) (ha : PE X a (tM X.K W ma)) (hb : PE X b (tM X.K W mb)) (hm : behindInMarks op b = false := by first | exact nomark _ | rfl) : PT X (.Compare a [op] [b] pos) (tMT X.K W (m_tb (m_op f ma mb))) :=
  PT.of (pt_cmpR ho ha hb hm) fun σ H Q h => by
    obtain ⟨r, ih, env, hr, he, q⟩ := tb_core h
    exact tG.imp (tG_bind hr he q) fun u H1 ⟨r1, ih1, v, p, hr1, hv, q1⟩ =>
      tG.imp (tG_bind hr1 (he.mono p) q1) fun w H2 ⟨r2, ih2, y, p2, hr2, hy, q2⟩ => hf _ _ _ _ _ _ _ _ _ hr2 (hv.mono p2) hy q2
/-- any expression that gives a bool, as a test -/
theorem lt_val {e : Expr} {m : Env → IH → Res IV} (h : PE X e (tM X.K W m)) (he : ∀ whole, isTrue e X.env whole = (do let v ← whole; standAt e.pos; holding [v] (truthy v)) := by intro _; rfl) : PT X e (tMT X.K W (m_tb m)) :=
  PT.of (pt_val h he) fun σ H Q h => tb_core h
theorem lt_not (h : PT X a (tMT X.K W na)) : PT X (.UnaryOp .Not a pos) (tMT X.K W (m_not na)) :=
  PT.of (pt_not h) fun σ H Q ⟨r, ih, env, hr, he, q⟩ => tG.imp (tG_bind hr he q) fun u H1 ⟨r1, ih1, v, p, hr1, hv, q1⟩ => tG_end q1 hr1 (by rw [show u = v from hv])
theorem lw_and1 (h : PT X a (tMT X.K W na)) : PW X (.BoolOp .And [a] pos) (tMT X.K W na) := pw_and1 h
theorem lw_or1 (h : PT X a (tMT X.K W na)) : PW X (.BoolOp .Or [a] pos) (tMT X.K W na) := pw_or1 h
theorem lw_and {rest : List Expr} (ha : PT X a (tMT X.K W na)) (hb : PW X (.BoolOp .And (b :: rest) pos) (tMT X.K W nb)) : PW X (.BoolOp .And (a :: b :: rest) pos) (tMT X.K W (m_and na nb)) :=
  PW.of (pw_and ha hb) fun σ H Q ⟨r, ih, env, hr, he, q⟩ => tG.imp (tG_bind hr he q) fun u H1 ⟨r1, ih1, v, p, hr1, hv, q1⟩ => by
    obtain rfl : u = v := hv
    cases u with
    | true => exact ⟨r1, ih1, env, hr1, he.mono p, q1⟩
    | false => exact tG_end q1 hr1 rfl
theorem lw_or {rest : List Expr} (ha : PT X a (tMT X.K W na)) (hb : PW X (.BoolOp .Or (b :: rest) pos) (tMT X.K W nb)) : PW X (.BoolOp .Or (a :: b :: rest) pos) (tMT X.K W (m_or na nb)) :=
  PW.of (pw_or ha hb) fun σ H Q ⟨r, ih, env, hr, he, q⟩ => tG.imp (tG_bind hr he q) fun u H1 ⟨r1, ih1, v, p, hr1, hv, q1⟩ => by
    obtain rfl : u = v := hv
    cases u with
    | true => exact tG_end q1 hr1 rfl
    | false => exact ⟨r1, ih1, env, hr1, he.mono p, q1⟩
theorem lm_one {op : BoolOp} (h : PE X a (tM X.K W ma)) : PE X (.BoolOp op [a] pos) (tM X.K W ma) := pe_one h
theorem lm_and {rest : List Expr} (ha : PE X a (tM X.K W ma)) (hb : PE X (.BoolOp .And (b :: rest) pos) (tM X.K W mb)) : PE X (.BoolOp .And (a :: b :: rest) pos) (tM X.K W (m_andV ma mb)) :=
  PE.of (pe_and ha hb) fun σ H Q ⟨r, ih, env, hr, he, q⟩ => tG.imp (tG_bind hr he q) fun u H1 ⟨r1, ih1, v, p, hr1, hv, q1⟩ => by
    cases v with
    | bl k =>
      obtain rfl : u = .bl k := hv
      refine ⟨k, rfl, ?_⟩
      cases k with
      | true => exact ⟨r1, ih1, env, hr1, he.mono p, q1⟩
      | false => exact tG_end q1 hr1 rfl
    | _ => exact q1.elim
theorem lm_or {rest : List Expr} (ha : PE X a (tM X.K W ma)) (hb : PE X (.BoolOp .Or (b :: rest) pos) (tM X.K W mb)) : PE X (.BoolOp .Or (a :: b :: rest) pos) (tM X.K W (m_orV ma mb)) :=
  PE.of (pe_or ha hb) fun σ H Q ⟨r, ih, env, hr, he, q⟩ => tG.imp (tG_bind hr he q) fun u H1 ⟨r1, ih1, v, p, hr1, hv, q1⟩ => by
    cases v with
    | bl k =>
      obtain rfl : u = .bl k := hv
      refine ⟨k, rfl, ?_⟩
      cases k with
      | true => exact tG_end q1 hr1 rfl
      | false => exact ⟨r1, ih1, env, hr1, he.mono p, q1⟩
    | _ => exact q1.elim
theorem lm_not (ha : PE X a (tM X.K W ma)) : PE X (.UnaryOp .Not a pos) (tM X.K W (m_notV ma)) :=
  PE.of (pe_not ha) fun σ H Q ⟨r, ih, env, hr, he, q⟩ => tG.imp (tG_bind hr he q) fun u H1 ⟨r1, ih1, v, p, hr1, hv, q1⟩ => by
    cases v with
    | bl k =>
      obtain rfl : u = .bl k := hv
      exact ⟨k, rfl, tG_end q1 hr1 rfl⟩
    | _ => exact q1.elim
theorem lm_if {t : Expr} {nt : Env → IH → Res Bool} (ht : PT X t (tMT X.K W nt)) (ha : PE X a (tM X.K W ma)) (hb : PE X b (tM X.K W mb)) : PE X (.IfExp t a b pos) (tM X.K W (m_if nt ma mb)) :=
  PE.of (pe_ifExp ht ha hb) fun σ H Q ⟨r, ih, env, hr, he, q⟩ => tG.imp (tG_bind hr he q) fun u H1 ⟨r1, ih1, v, p, hr1, hv, q1⟩ => by
    obtain rfl : u = v := hv
    cases u with
    | true => exact ⟨r1, ih1, env, hr1, he.mono p, q1⟩
    | false => exact ⟨r1, ih1, env, hr1, he.mono p, q1⟩
theorem la_nil : PA X [] (tMA X.K W m_nil) := PA.of pa_nil fun σ H Q ⟨r, ih, env, hr, he, q⟩ => tG_end q hr .nil
theorem la_cons {es : List Expr} {mr : Env → IH → Res (List IV)} (ha : PE X a (tM X.K W ma)) (hr : PA X es (tMA X.K W mr)) (hp : starEach (a :: es) X.env = (false, eval a X.env) :: starEach es X.env := by rfl) : PA X (a :: es) (tMA X.K W (m_cons ma mr)) :=
  PA.of (pa_cons ha hr hp) fun σ H Q ⟨r, ih, env, hr, he, q⟩ => tG.imp (tG_bind hr he q) fun u H1 ⟨r1, ih1, v, p, hr1, hv, q1⟩ =>
    tG.imp (tG_bind hr1 (he.mono p) q1) fun w H2 ⟨r2, ih2, y, p2, hr2, hy, q2⟩ => tG_end q2 hr2 (.cons (hv.mono p2) hy)
/-- a built-in function, a built-in type -/
theorem lm_callB {x : Str} {p : Pos} {es : List Expr} {id : String} {rr : List V → Hp → VK → Prop} {f : List IV → IH → Res IV} {m : Env → IH → Res (List IV)} (hc : CallR X (.builtin id) rr) (hf : SndC X.K W rr f) (hg : Gl X x) (hm : X.mg x = none) (hv : bootBuiltins x = some (.builtin id)) (ha : PA X (a :: es) (tMA X.K W m))
    (hn : x ≠ "__name__" := by decide) (hdb : (x == ("__debug__" : Str)) = false := by decide)
    (he : starEach (a :: es) X.env = (false, eval a X.env) :: starEach es X.env := by rfl) (hpl : (backTo pos (starEach es X.env)).any (·.1) = false := by rfl) : PE X (.Call (.Name x p) (a :: es) [] pos) (tM X.K W (m_app f m)) :=
  PE.of (pe_callB hc hg hm hv ha hn hdb he hpl) fun σ H Q ⟨r, ih, env, hr, he, q⟩ => tG.imp (tG_bind hr he q) fun u H1 ⟨r1, ih1, v, p, hr1, hv, q1⟩ => hf _ _ _ _ _ _ _ hr1 hv q1
theorem lm_callTy {x : Str} {p : Pos} {es : List Expr} {T : String} {rr : List V → Hp → VK → Prop} {f : List IV → IH → Res IV} {m : Env → IH → Res (List IV)} (hc : CallR X (.type T) rr) (hf : SndC X.K W rr f) (hg : Gl X x) (hm : X.mg x = none) (hv : bootBuiltins x = some (.type T)) (ha : PA X (a :: es) (tMA X.K W m))
    (hn : x ≠ "__name__" := by decide) (hdb : (x == ("__debug__" : Str)) = false := by decide)
    (he : starEach (a :: es) X.env = (false, eval a X.env) :: starEach es X.env := by rfl) (hpl : (backTo pos (starEach es X.env)).any (·.1) = false := by rfl) : PE X (.Call (.Name x p) (a :: es) [] pos) (tM X.K W (m_app f m)) :=
  PE.of (pe_callTy hc hg hm hv ha hn hdb he hpl) fun σ H Q ⟨r, ih, env, hr, he, q⟩ => tG.imp (tG_bind hr he q) fun u H1 ⟨r1, ih1, v, p, hr1, hv, q1⟩ => hf _ _ _ _ _ _ _ hr1 hv q1
end
end L3
/-! L3c: the mirrors of operations on values, and that the hand layer's rules follow them. -/
namespace L3
variable [TabT] [LamT]
open PySem L2

/-! ### reading objects -/
def MO.xs : MO → List IV
  | .lst xs => xs
  | .tup xs => xs
  | .ro xs => xs
  | .rot xs => xs
  | .dct => []
  | .dk _ => []
  | .clo => []
  | .fn _ _ => []
def MO.isL : MO → Bool
  | .lst _ => true
  | .tup _ => false
  | .ro _ => true
  | .rot _ => false
  | .dct => false
  | .dk _ => false
  | .clo => false
  | .fn _ _ => false
def MO.isT : MO → Bool
  | .tup _ => true
  | .rot _ => true
  | _ => false
def MO.isS : MO → Bool
  | .dct => false
  | .dk _ => false
  | .clo => false
  | .fn _ _ => false
  | _ => true
theorem MO.lt {o : MO} (h : o.isL = true) (k : o.isT = true) : False := by
  cases o with
  | lst _ => cases k
  | ro _ => cases k
  | _ => cases h
theorem MO.tf {o : MO} (h : o.isL = false) (k : o = .dct → False) (k2 : o = .clo → False) (k3 : ∀ kvs, o = .dk kvs → False) (k4 : ∀ e j, o = .fn e j → False) : o.isT = true := by
  cases o with
  | fn e j => exact (k4 e j rfl).elim
  | dct => exact (k rfl).elim
  | dk kvs => exact (k3 kvs rfl).elim
  | clo => exact (k2 rfl).elim
  | tup _ => rfl
  | rot _ => rfl
  | _ => cases h
theorem MO.xs0 {o : MO} (h : o.isL = false) (k : o.isT = false) : o.xs = [] := by
  cases o with
  | dct => rfl
  | dk _ => rfl
  | clo => rfl
  | fn _ _ => rfl
  | tup _ => cases k
  | rot _ => cases k
  | _ => cases h
section
variable {K : PySem.W.Frag} {W : WX} {r : List Addr} {ih : IH} {H : Hp} {a : Addr} {o : MO}
theorem RO.l (h : RO K r H a o) (e : o.isL = true) : ∃ ys, SqL K H a ys ∧ Rs r o.xs ys := by
  cases o with
  | lst xs => obtain ⟨ys, h1, h2⟩ := h; exact ⟨ys, .inl (.inl h1), h2⟩
  | ro xs =>
    obtain ⟨ys, h1, h2⟩ := h
    rcases h1 with ⟨o, h1⟩ | h1
    · exact ⟨ys, .inl (.inr ⟨o, h1⟩), h2⟩
    · exact ⟨ys, SqL.ofK h1, h2⟩
  | tup xs => cases e
  | rot xs => cases e
  | dct => cases e
  | dk _ => cases e
  | clo => cases e
  | fn _ _ => cases e
theorem RO.t (h : RO K r H a o) (e : o.isT = true) : ∃ ys, SqT K H a ys ∧ Rs r o.xs ys := by
  cases o with
  | tup xs => obtain ⟨ys, h1, h2⟩ := h; exact ⟨ys, .inl (.inl h1), h2⟩
  | rot xs => obtain ⟨ys, h1, h2⟩ := h; exact ⟨ys, SqT.ofK h1, h2⟩
  | lst xs => cases e
  | ro xs => cases e
  | dct => cases e
  | dk _ => cases e
  | clo => cases e
  | fn _ _ => cases e
theorem Rs.atI {xs : List IV} {ys : List V} {i : Int} {v : IV} (h : Rs r xs ys) (e : atI xs i = some v) : ∃ u, atI ys i = some u ∧ R r v u := by
  unfold L2.atI at e ⊢
  rw [← h.length]
  cases q : ixN xs.length i with
  | none => rw [q] at e; cases e
  | some j =>
    rw [q] at e
    obtain ⟨u, h1, h2⟩ := h.get (i := j) e
    exact ⟨u, h1, h2⟩
theorem R.flat {x : IV} {y : V} (h : R r x y) (f : ∀ n, x ≠ .ref n) : y = x.toV := by
  cases x with
  | ref n => exact absurd rfl (f n)
  | _ => exact h
theorem R.ref {n : Nat} {y : V} (h : R r (.ref n) y) : ∃ a, r[n]? = some a ∧ y = .ref a := h
end

/-! ### ints -/
def f_I (C : Int → Int → Bool) (g : Int → Int → IV) (x y : IV) (ih : IH) : Res IV := match x, y with
  | .int i, .int j => if C i j = true then .ok (g i j) ih else .stuck
  | _, _ => .stuck
def f_I0 (g : Int → Int → IV) (x y : IV) (ih : IH) : Res IV := match x, y with
  | .int i, .int j => .ok (g i j) ih
  | _, _ => .stuck
def f_U (g : Int → IV) (x : IV) (ih : IH) : Res IV := match x with
  | .int i => .ok (g i) ih
  | _ => .stuck
abbrev ibits (i : Int) : Nat := Builtin.Int.intBits i
def cMul (i j : Int) : Bool := decide (ibits i + ibits j ≤ 134217728)
def cShl (i j : Int) : Bool := decide (0 ≤ j) && decide ((ibits i : Int) + j ≤ 134217728)
def cShr (_ j : Int) : Bool := decide (0 ≤ j)
def cDiv (_ j : Int) : Bool := decide (0 < j) && decide (j.natAbs.log2 < 9000)
def cMod (_ j : Int) : Bool := decide (0 < j)
def cPow (i j : Int) : Bool := decide (0 ≤ j) && decide (j ≤ 1000000) && decide (i.natAbs < 18446744073709551616)
section
variable {X : Cx} {K : PySem.W.Frag} {W : WX}
theorem snd_I {C : Int → Int → Bool} {D : Int → Int → Prop} {g : Int → Int → IV} {g' : Int → Int → V} (hC : ∀ i j, C i j = true → D i j) (hg : ∀ r i j, R r (g i j) (g' i j)) : Snd2 K W (rI D g') (f_I C g) := by
  intro r ih H x y u w σ Q hr hx hy q
  cases x with
  | int i =>
    cases y with
    | int j =>
      obtain rfl : u = .int i := hx
      obtain rfl : w = .int j := hy
      show ∃ i' j', _
      refine ⟨i, j, rfl, rfl, ?_⟩
      unfold f_I at q
      dsimp only at q
      split at q
      · rename_i hc
        exact ⟨hC i j hc, tG_end q hr (hg r i j)⟩
      · exact q.elim
    | _ => exact q.elim
  | _ => exact q.elim
theorem snd_I0 {g : Int → Int → IV} {g' : Int → Int → V} (hg : ∀ r i j, R r (g i j) (g' i j)) : Snd2 K W (rI0 g') (f_I0 g) := by
  intro r ih H x y u w σ Q hr hx hy q
  cases x with
  | int i =>
    cases y with
    | int j =>
      obtain rfl : u = .int i := hx
      obtain rfl : w = .int j := hy
      exact ⟨i, j, rfl, rfl, tG_end q hr (hg r i j)⟩
    | _ => exact q.elim
  | _ => exact q.elim
theorem snd_U {g : Int → IV} {g' : Int → V} (hg : ∀ r i, R r (g i) (g' i)) : Snd1 K W (rU g') (f_U g) := by
  intro r ih H x u σ Q hr hx q
  cases x with
  | int i =>
    obtain rfl : u = .int i := hx
    exact ⟨i, rfl, tG_end q hr (hg r i)⟩
  | _ => exact q.elim
def f_mul := f_I cMul fun i j => .int (i * j)
def f_sub := f_I0 fun i j => .int (i - j)
def f_fdiv := f_I cDiv fun i j => .int (i / j)
def f_mod := f_I cMod fun i j => .int (i % j)
def f_shl := f_I cShl fun i j => .int (i * 2 ^ j.toNat)
def f_shr := f_I cShr fun i j => .int (i / 2 ^ j.toNat)
def f_pow := f_I cPow fun i j => .int (i ^ j.toNat)
def f_lt := f_I0 fun i j => .bl (decide (i < j))
def f_le := f_I0 fun i j => .bl (decide (i ≤ j))
def f_gt := f_I0 fun i j => .bl (decide (j < i))
def f_ge := f_I0 fun i j => .bl (decide (j ≤ i))
def f_neg := f_U fun i => .int (-i)
theorem s_mul : Snd2 K W (rI CMulX fun i j => .int (i * j)) f_mul := snd_I (fun i j h => by
  have h1 := of_decide_eq_true h
  unfold ibits at h1
  unfold CMulX
  omega) fun _ _ _ => rfl
theorem s_sub : Snd2 K W (rI0 fun i j => .int (i - j)) f_sub := snd_I0 fun _ _ _ => rfl
theorem s_fdiv : Snd2 K W (rI CDivW fun i j => .int (i / j)) f_fdiv := snd_I (fun i j h => by
  unfold cDiv at h
  rw [Bool.and_eq_true] at h
  exact ⟨of_decide_eq_true h.1, of_decide_eq_true h.2⟩) fun _ _ _ => rfl
theorem s_mod : Snd2 K W (rI (fun _ j => 0 < j) fun i j => .int (i % j)) f_mod := snd_I (fun i j h => of_decide_eq_true h) fun _ _ _ => rfl
theorem s_shl : Snd2 K W (rI CShl fun i j => .int (i * 2 ^ j.toNat)) f_shl := snd_I (fun i j h => by
  unfold cShl at h
  rw [Bool.and_eq_true] at h
  exact ⟨of_decide_eq_true h.1, of_decide_eq_true h.2⟩) fun _ _ _ => rfl
theorem s_shr : Snd2 K W (rI (fun _ j => 0 ≤ j) fun i j => .int (i / 2 ^ j.toNat)) f_shr := snd_I (fun i j h => of_decide_eq_true h) fun _ _ _ => rfl
theorem s_pow : Snd2 K W (rI CPow fun i j => .int (i ^ j.toNat)) f_pow := snd_I (fun i j h => by
  unfold cPow at h
  rw [Bool.and_eq_true, Bool.and_eq_true] at h
  exact ⟨of_decide_eq_true h.1.1, of_decide_eq_true h.1.2, of_decide_eq_true h.2⟩) fun _ _ _ => rfl
theorem s_lt : Snd2 K W (rI0 fun i j => .bl (decide (i < j))) f_lt := snd_I0 fun _ _ _ => rfl
theorem s_le : Snd2 K W (rI0 fun i j => .bl (decide (i ≤ j))) f_le := snd_I0 fun _ _ _ => rfl
theorem s_gt : Snd2 K W (rI0 fun i j => .bl (decide (j < i))) f_gt := snd_I0 fun _ _ _ => rfl
theorem s_ge : Snd2 K W (rI0 fun i j => .bl (decide (j ≤ i))) f_ge := snd_I0 fun _ _ _ => rfl
theorem s_neg : Snd1 K W (rU fun i => .int (-i)) f_neg := snd_U fun _ _ => rfl

/-! ### + : ints, lists, tuples, texts -/
def f_add (x y : IV) (ih : IH) : Res IV := match x, y with
  | .int i, .int j => .ok (.int (i + j)) ih
  | .str a, .str b => if a.length + b.length ≤ 1000000 then .ok (.str (a ++ b)) ih else .stuck
  | .ref n, .ref m => match ih[n]?, ih[m]? with
    | some (.lst xs), some (.lst ys) => if xs.length + ys.length ≤ 100000 then .ok (.ref ih.length) (ih ++ [.lst (xs ++ ys)]) else .stuck
    | some (.tup xs), some (.tup ys) => if xs ≠ [] ∧ ys ≠ [] ∧ xs.length + ys.length ≤ 100000 then .ok (.ref ih.length) (ih ++ [.tup (xs ++ ys)]) else .stuck
    | _, _ => .stuck
  | _, _ => .stuck
theorem pre_one {r : List Addr} {p : Addr} : r <+: r ++ [p] := ⟨[p], rfl⟩
theorem R.newest {r : List Addr} {p : Addr} {n : Nat} (h : r.length = n) : R (r ++ [p]) (.ref n) (.ref p) := ⟨p, by rw [← h, List.getElem?_append_right (Nat.le_refl _), Nat.sub_self]; rfl, rfl⟩
/-- a new list, a new tuple is the result -/
theorem end_lst {r : List Addr} {ih : IH} {H : Hp} {σ : St} {Q : VK} {xs : List IV} {ys : List V} (q : PGen R K W σ r (.ok (.ref ih.length) (ih ++ [.lst xs])) Q) (hr : Rel K r ih H) (h : Rs r xs ys) {p : Addr} (hp : H p = none) : Q (.ref p) (upd H p (.lst ys)) :=
  q _ _ _ pre_one (hr.new hp rfl fun H' e => ⟨ys, e, h⟩) (R.newest hr.len)
theorem end_tup {r : List Addr} {ih : IH} {H : Hp} {σ : St} {Q : VK} {xs : List IV} {ys : List V} (q : PGen R K W σ r (.ok (.ref ih.length) (ih ++ [.tup xs])) Q) (hr : Rel K r ih H) (h : Rs r xs ys) {p : Addr} (hp : H p = none) : Q (.ref p) (upd H p (.tup ys)) :=
  q _ _ _ pre_one (hr.new hp rfl fun H' e => ⟨ys, e, h⟩) (R.newest hr.len)
theorem line5 {n : Nat} (h : n ≤ 100000) : n ≤ sizeLine := Nat.le_trans h (by decide)
theorem line6 {n : Nat} (h : n ≤ 1000000) : n ≤ sizeLine := Nat.le_trans h (by decide)
theorem line5l {n : Nat} (h : n < 100000) : n < sizeLine := Nat.lt_of_lt_of_le h (by decide)
abbrev rAddA (K : PySem.W.Frag) : R2 := fun x y H Q => (∃ i j, x = .int i ∧ y = .int j ∧ Q (.int (i + j)) H) ∨ ((∃ i j, x = .str i ∧ y = .str j ∧ i.length + j.length ≤ sizeLine ∧ Q (.str (i ++ j)) H) ∨ (rCat x y H Q ∨ rCatT K x y H Q))
theorem op_addA : OpR X (binaryOp .Add) (rAddA X.K) := op_add.or (op_add_str.or (op_cat.or op_catT))
theorem Rs.ne_nil {r : List Addr} {xs : List IV} {ys : List V} (h : Rs r xs ys) (n : xs ≠ []) : ys ≠ [] := fun e => by
  subst e
  have := h.length
  exact n (List.length_eq_zero_iff.mp this)
theorem s_add : Snd2 K W (rAddA K) f_add := by
  intro r ih H x y u w σ Q hr hx hy q
  unfold f_add at q
  split at q
  · rename_i i j
    obtain rfl : u = .int i := hx
    obtain rfl : w = .int j := hy
    exact .inl ⟨i, j, rfl, rfl, tG_end q hr rfl⟩
  · rename_i i j
    obtain rfl : u = .str i := hx
    obtain rfl : w = .str j := hy
    split at q
    · rename_i hl
      exact .inr (.inl ⟨i, j, rfl, rfl, line6 hl, tG_end q hr rfl⟩)
    · exact q.elim
  · rename_i n m
    obtain ⟨a, ea, rfl⟩ := hx.ref
    obtain ⟨b, eb, rfl⟩ := hy.ref
    split at q
    · rename_i xs ys e1 e2
      obtain ⟨xs', h1, h2⟩ := hr.get n a _ ea e1
      obtain ⟨ys', h3, h4⟩ := hr.get m b _ eb e2
      split at q
      · rename_i hl
        refine .inr (.inr (.inl ⟨a, b, xs', ys', rfl, rfl, h1, h3, ?_, fun p hp => end_lst q hr (h2.append h4) hp⟩))
        rw [← h2.length, ← h4.length]
        exact line5 hl
      · exact q.elim
    · rename_i xs ys e1 e2
      obtain ⟨xs', h1, h2⟩ := hr.get n a _ ea e1
      obtain ⟨ys', h3, h4⟩ := hr.get m b _ eb e2
      split at q
      · rename_i hl
        refine .inr (.inr (.inr ⟨a, b, xs', ys', rfl, rfl, SqT.of h1, SqT.of h3, h2.ne_nil hl.1, ?_, fun z => absurd z (h4.ne_nil hl.2.1), fun _ p hp => end_tup q hr (h2.append h4) hp⟩))
        rw [← h2.length, ← h4.length]
        exact line5 hl.2.2
      · exact q.elim
    · exact q.elim
  · exact q.elim

/-! ### list * int -/
def f_mulA (x y : IV) (ih : IH) : Res IV := match x, y with
  | .int i, .int j => if cMul i j = true then .ok (.int (i * j)) ih else .stuck
  | .ref n, .int k => match ih[n]? with
    | some (.lst xs) => if 0 ≤ k ∧ k ≤ 100000 ∧ xs.length * k.toNat ≤ 100000 then .ok (.ref ih.length) (ih ++ [.lst (List.replicate k.toNat xs).flatten]) else .stuck
    | _ => .stuck
  | _, _ => .stuck
theorem Rs.rep {r : List Addr} {xs : List IV} {ys : List V} (h : Rs r xs ys) : ∀ k : Nat, Rs r (List.replicate k xs).flatten (List.replicate k ys).flatten
  | 0 => .nil
  | k + 1 => by
    rw [List.replicate_succ, List.replicate_succ, List.flatten_cons, List.flatten_cons]
    exact h.append (Rs.rep h k)
abbrev rMulA : R2 := fun x y H Q => rI CMulX (fun i j => .int (i * j)) x y H Q ∨ rRep x y H Q
theorem op_mulA : OpR X (binaryOp .Mult) rMulA := op_mulX.or op_rep
theorem s_mulA : Snd2 K W rMulA f_mulA := by
  intro r ih H x y u w σ Q hr hx hy q
  unfold f_mulA at q
  split at q
  · rename_i i j
    refine .inl (s_mul (W := W) r ih H (.int i) (.int j) u w σ Q hr hx hy ?_)
    exact q
  · rename_i n k
    obtain ⟨a, ea, rfl⟩ := hx.ref
    obtain rfl : w = .int k := hy
    split at q
    · rename_i xs e1
      obtain ⟨xs', h1, h2⟩ := hr.get n a _ ea e1
      split at q
      · rename_i hl
        refine .inr ⟨a, k, xs', rfl, rfl, h1, by omega, by omega, ?_, fun p hp => end_lst q hr (h2.rep _) hp⟩
        rw [← h2.length]
        exact line5 hl.2.2
      · exact q.elim
    · exact q.elim
  · exact q.elim

/-! ### subscripts -/
def f_ix (x y : IV) (ih : IH) : Res IV := match x, y with
  | .ref n, .int i => match ih[n]? with
    | some o => match atI o.xs i with
      | some v => .ok v ih
      | none => .stuck
    | none => .stuck
  | .str z, .int i => if z.length ≤ 1000000 then (match atI z.cps.toList i with
      | some c => .ok (.str ⟨#[c]⟩) ih
      | none => .stuck) else .stuck
  | _, _ => .stuck
theorem s_ix : Snd2 K W (rIx K) f_ix := by
  intro r ih H x y u w σ Q hr hx hy q
  unfold f_ix at q
  split at q
  · rename_i n i
    obtain ⟨a, ea, rfl⟩ := hx.ref
    obtain rfl : w = .int i := hy
    split at q
    · rename_i o e1
      have ho := hr.get n a _ ea e1
      split at q
      · rename_i v e2
        cases hl : o.isL with
        | true =>
          obtain ⟨ys, h1, h2⟩ := ho.l hl
          obtain ⟨z, h3, h4⟩ := h2.atI e2
          exact .inl ⟨a, ys, i, z, rfl, rfl, h1, h3, tG_end q hr h4⟩
        | false =>
          cases ht : o.isT with
          | true =>
            obtain ⟨ys, h1, h2⟩ := ho.t ht
            obtain ⟨z, h3, h4⟩ := h2.atI e2
            exact .inr (.inl ⟨a, ys, i, z, rfl, rfl, h1, h3, tG_end q hr h4⟩)
          | false =>
            rw [MO.xs0 hl ht] at e2
            simp [L2.atI] at e2
      · exact q.elim
    · exact q.elim
  · rename_i z i
    obtain rfl : u = .str z := hx
    obtain rfl : w = .int i := hy
    split at q
    · rename_i hl
      split at q
      · rename_i c e
        exact .inr (.inr ⟨z, i, c, rfl, rfl, line6 hl, e, tG_end q hr rfl⟩)
      · exact q.elim
    · exact q.elim
  · exact q.elim
end

/-! ### == and != -/
mutual
/-- the value is this datum -/
inductive Is (ih : IH) : IV → PyData → Prop
  | non : Is ih .non .none
  | bl (b : Bool) : Is ih (.bl b) (.bool b)
  | int (i : Int) : Is ih (.int i) (.int i)
  | str (x : Str) : Is ih (.str x) (.str x)
  | lst {n : Nat} {o : MO} {ds : List PyData} : ih[n]? = some o → o.isL = true → IsAll ih o.xs ds → Is ih (.ref n) (.list ds)
  | tup {n : Nat} {o : MO} {ds : List PyData} : ih[n]? = some o → o.isT = true → IsAll ih o.xs ds → Is ih (.ref n) (.tuple ds)
inductive IsAll (ih : IH) : List IV → List PyData → Prop
  | nil : IsAll ih [] []
  | cons {v : IV} {vs : List IV} {d : PyData} {ds : List PyData} : Is ih v d → IsAll ih vs ds → IsAll ih (v :: vs) (d :: ds)
end
mutual
theorem Is.uniq {ih : IH} : ∀ (d e : PyData) (v : IV), Is ih v d → Is ih v e → d = e
  | .none, _, _, h, k => by cases h; cases k; rfl
  | .bool _, _, _, h, k => by cases h; cases k; rfl
  | .int _, _, _, h, k => by cases h; cases k; rfl
  | .str _, _, _, h, k => by cases h; cases k; rfl
  | .list ds, _, _, h, k => by
    cases h with
    | lst h1 h2 h3 =>
      cases k with
      | lst k1 k2 k3 =>
        rw [h1] at k1
        cases k1
        rw [Is.uniqAll ds _ _ h3 k3]
      | tup k1 k2 k3 =>
        rw [h1] at k1
        cases k1
        exact (MO.lt h2 k2).elim
  | .tuple ds, _, _, h, k => by
    cases h with
    | tup h1 h2 h3 =>
      cases k with
      | tup k1 k2 k3 =>
        rw [h1] at k1
        cases k1
        rw [Is.uniqAll ds _ _ h3 k3]
      | lst k1 k2 k3 =>
        rw [h1] at k1
        cases k1
        exact (MO.lt k2 h2).elim
  | .dict _, _, _, h, _ => by cases h
theorem Is.uniqAll {ih : IH} : ∀ (ds es : List PyData) (vs : List IV), IsAll ih vs ds → IsAll ih vs es → ds = es
  | [], _, _, h, k => by cases h; cases k; rfl
  | d :: ds, _, _, h, k => by
    cases h with
    | cons h1 h2 =>
      cases k with
      | cons k1 k2 => rw [Is.uniq d _ _ h1 k1, Is.uniqAll ds _ _ h2 k2]
end
mutual
theorem Is.dp {K : PySem.W.Frag} {r : List Addr} {ih : IH} {H : Hp} (hr : Rel K r ih H) : ∀ (d : PyData) (v : IV) (u : V), Is ih v d → R r v u → Dp K H u d
  | .none, _, u, h, q => by cases h; obtain rfl : u = .non := q; exact .non
  | .bool b, _, u, h, q => by cases h; obtain rfl : u = .bl b := q; exact .bl b
  | .int i, _, u, h, q => by cases h; obtain rfl : u = .int i := q; exact .int i
  | .str x, _, u, h, q => by cases h; obtain rfl : u = .str x := q; exact .str x
  | .list ds, _, u, h, q => by
    cases h with
    | lst h1 h2 h3 =>
      obtain ⟨a, ea, rfl⟩ := q.ref
      obtain ⟨ys, h4, h5⟩ := (hr.get _ a _ ea h1).l h2
      exact .lst h4 (Is.dpAll hr ds _ _ h3 h5)
  | .tuple ds, _, u, h, q => by
    cases h with
    | tup h1 h2 h3 =>
      obtain ⟨a, ea, rfl⟩ := q.ref
      obtain ⟨ys, h4, h5⟩ := (hr.get _ a _ ea h1).t h2
      exact .tup h4 (Is.dpAll hr ds _ _ h3 h5)
  | .dict _, _, _, h, _ => by cases h
theorem Is.dpAll {K : PySem.W.Frag} {r : List Addr} {ih : IH} {H : Hp} (hr : Rel K r ih H) : ∀ (ds : List PyData) (vs : List IV) (us : List V), IsAll ih vs ds → Rs r vs us → DpAll K H us ds
  | [], _, _, h, q => by cases h; cases q; exact .nil
  | d :: ds, _, _, h, q => by
    cases h with
    | cons h1 h2 =>
      cases q with
      | cons q1 q2 => exact .cons (Is.dp hr d _ _ h1 q1) (Is.dpAll hr ds _ _ h2 q2)
end
/-- two lists of unlike lengths -/
def lenNe (x y : IV) (ih : IH) : Bool := match x, y with
  | .ref n, .ref m => match ih[n]?, ih[m]? with
    | some o, some u => o.isL && u.isL && (o.xs.length != u.xs.length)
    | _, _ => false
  | _, _ => false
open Classical in
noncomputable def f_eqn (neg : Bool) (x y : IV) (ih : IH) : Res IV :=
  if h : ∃ p : PyData × PyData, Is ih x p.1 ∧ Is ih y p.2 ∧ SeqAt.shaped p.1 = true ∧ SeqAt.shaped p.2 = true then .ok (.bl (if neg = true then !PyData.eqv h.choose.1 h.choose.2 else PyData.eqv h.choose.1 h.choose.2)) ih else if lenNe x y ih = true then .ok (.bl neg) ih else match x, y with
    | .str a, .str b => .ok (.bl (if neg = true then !decide (a = b) else decide (a = b))) ih
    | _, _ => .stuck
noncomputable def f_eq := f_eqn false
noncomputable def f_ne := f_eqn true
theorem f_eqn_of {neg : Bool} {x y : IV} {ih : IH} {d e : PyData} (h1 : Is ih x d) (h2 : Is ih y e) (s1 : SeqAt.shaped d = true) (s2 : SeqAt.shaped e = true) : f_eqn neg x y ih = .ok (.bl (if neg = true then !PyData.eqv d e else PyData.eqv d e)) ih := by
  unfold f_eqn
  have h : ∃ p : PyData × PyData, Is ih x p.1 ∧ Is ih y p.2 ∧ SeqAt.shaped p.1 = true ∧ SeqAt.shaped p.2 = true := ⟨(d, e), h1, h2, s1, s2⟩
  rw [dif_pos h]
  have k := h.choose_spec
  rw [Is.uniq _ _ _ k.1 h1, Is.uniq _ _ _ k.2.1 h2]
theorem f_eq_of {x y : IV} {ih : IH} {d e : PyData} (h1 : Is ih x d) (h2 : Is ih y e) (s1 : SeqAt.shaped d = true) (s2 : SeqAt.shaped e = true) : f_eq x y ih = .ok (.bl (PyData.eqv d e)) ih := f_eqn_of h1 h2 s1 s2
theorem f_ne_of {x y : IV} {ih : IH} {d e : PyData} (h1 : Is ih x d) (h2 : Is ih y e) (s1 : SeqAt.shaped d = true) (s2 : SeqAt.shaped e = true) : f_ne x y ih = .ok (.bl (!PyData.eqv d e)) ih := f_eqn_of h1 h2 s1 s2
theorem IsAll.len {ih : IH} : ∀ {vs : List IV} {ds : List PyData}, IsAll ih vs ds → vs.length = ds.length
  | _, _, .nil => rfl
  | _, _, .cons _ t => congrArg Nat.succ t.len
theorem eqv_lenNe {xs ys : List PyData} (h : xs.length ≠ ys.length) : PyData.eqv (.list xs) (.list ys) = false := by
  refine Bool.eq_false_iff.mpr fun e => h ?_
  unfold PyData.eqv at e
  have key : ∀ (xs ys : List PyData), PyData.eqvAll xs ys = true → xs.length = ys.length := by
    intro xs
    induction xs with
    | nil => intro ys e; cases ys with
      | nil => rfl
      | cons y ys => simp [PyData.eqvAll] at e
    | cons x xs ih => intro ys e; cases ys with
      | nil => simp [PyData.eqvAll] at e
      | cons y ys =>
        simp [PyData.eqvAll] at e
        rw [List.length_cons, List.length_cons, ih ys e.2]
  exact key xs ys e
theorem f_eqn_len {neg : Bool} {n m : Nat} {o u : MO} {ih : IH} (h1 : ih[n]? = some o) (h2 : ih[m]? = some u) (l1 : o.isL = true) (l2 : u.isL = true) (hl : o.xs.length ≠ u.xs.length) : f_eqn neg (.ref n) (.ref m) ih = .ok (.bl neg) ih := by
  have e1 : lenNe (.ref n) (.ref m) ih = true := by
    unfold lenNe
    dsimp only
    rw [h1, h2]
    dsimp only
    rw [l1, l2]
    simpa using hl
  unfold f_eqn
  by_cases h : ∃ p : PyData × PyData, Is ih (.ref n) p.1 ∧ Is ih (.ref m) p.2 ∧ SeqAt.shaped p.1 = true ∧ SeqAt.shaped p.2 = true
  · rw [dif_pos h]
    have k := h.choose_spec
    have e2 : PyData.eqv h.choose.1 h.choose.2 = false := by
      generalize h.choose = z at k ⊢
      obtain ⟨d, e⟩ := z
      obtain ⟨k1, k2, _, _⟩ := k
      dsimp only at k1 k2 ⊢
      cases k1 with
      | lst g1 g2 g3 =>
        rw [h1] at g1
        cases g1
        cases k2 with
        | lst f1 f2 f3 =>
          rw [h2] at f1
          cases f1
          exact eqv_lenNe (by rw [← g3.len, ← f3.len]; exact hl)
        | tup f1 f2 f3 =>
          rw [h2] at f1
          cases f1
          exact (MO.lt l2 f2).elim
      | tup g1 g2 g3 =>
        rw [h1] at g1
        cases g1
        exact (MO.lt l1 g2).elim
    rw [e2]
    cases neg <;> rfl
  · rw [dif_neg h, if_pos e1]
theorem eqv_strD {a b : Str} : PyData.eqv (.str a) (.str b) = decide (a = b) := by
  unfold PyData.eqv
  by_cases h : a = b
  · subst h; simp
  · simp [h]
theorem f_eqn_str {neg : Bool} {a b : Str} {ih : IH} : f_eqn neg (.str a) (.str b) ih = .ok (.bl (if neg = true then !decide (a = b) else decide (a = b))) ih := by
  unfold f_eqn
  by_cases h : ∃ p : PyData × PyData, Is ih (.str a) p.1 ∧ Is ih (.str b) p.2 ∧ SeqAt.shaped p.1 = true ∧ SeqAt.shaped p.2 = true
  · rw [dif_pos h]
    have k := h.choose_spec
    generalize h.choose = z at k ⊢
    obtain ⟨d, e⟩ := z
    obtain ⟨k1, k2, _, _⟩ := k
    dsimp only at k1 k2 ⊢
    cases k1
    cases k2
    rw [eqv_strD]
  · rw [dif_neg h]
    rfl
def rEqL (K : PySem.W.Frag) (b : Bool) : R2 := fun x y H Q => ∃ p q xs ys, x = .ref p ∧ y = .ref q ∧ SqL K H p xs ∧ SqL K H q ys ∧ xs.length ≠ ys.length ∧ Q (.bl b) H
abbrev rEqX (K : PySem.W.Frag) : R2 := fun x y H Q => rEqD K x y H Q ∨ (rEqL K false x y H Q ∨ rEq x y H Q)
abbrev rNeX (K : PySem.W.Frag) : R2 := fun x y H Q => rNeD K x y H Q ∨ (rEqL K true x y H Q ∨ rNe x y H Q)
theorem op_eqL {X : Cx} (hu : X.A.units < cLine) : OpR X (compareOp .Eq) (rEqL X.K false) := by
  intro pins s σ H x y v u Q I rx ry h
  obtain ⟨p, q, xs, ys, rfl, rfl, h1, h2, hl, k⟩ := h
  cases (show v = Value.ref p from rx)
  cases (show u = Value.ref q from ry)
  obtain ⟨us, r1, p1, _⟩ := I.list h1
  obtain ⟨ws, r2, p2, _⟩ := I.list h2
  exact SeqAt.RcAt.lists_lengths p1.isList p2.isList (by simpa [← r1.length, ← r2.length] using hl) hu _ _ _ _ ⟨.bl _, H, I, rfl, k⟩
theorem op_neL {X : Cx} (hu : X.A.units < cLine) : OpR X (compareOp .NotEq) (rEqL X.K true) := by
  intro pins s σ H x y v u Q I rx ry h
  obtain ⟨p, q, xs, ys, rfl, rfl, h1, h2, hl, k⟩ := h
  cases (show v = Value.ref p from rx)
  cases (show u = Value.ref q from ry)
  obtain ⟨us, r1, p1, _⟩ := I.list h1
  obtain ⟨ws, r2, p2, _⟩ := I.list h2
  exact SeqAt.RcNeAt.lists_lengths p1.isList p2.isList (by simpa [← r1.length, ← r2.length] using hl) hu _ _ _ _ ⟨.bl _, H, I, rfl, k⟩
theorem op_eqX {X : Cx} (hu : X.A.units + 64 < cLine) : OpR X (compareOp .Eq) (rEqX X.K) := (op_eqD hu).or ((op_eqL (by omega)).or op_eq)
theorem op_neX {X : Cx} (hu : X.A.units + 64 < cLine) : OpR X (compareOp .NotEq) (rNeX X.K) := (op_neD hu).or ((op_neL (by omega)).or op_ne)
theorem lenNe_R {K : PySem.W.Frag} {r : List Addr} {ih : IH} {H : Hp} {x y : IV} {u w : V} (hr : Rel K r ih H) (hx : R r x u) (hy : R r y w) (h : lenNe x y ih = true) :
    ∃ p q xs ys, u = .ref p ∧ w = .ref q ∧ SqL K H p xs ∧ SqL K H q ys ∧ xs.length ≠ ys.length := by
  unfold lenNe at h
  split at h
  · rename_i n m
    obtain ⟨a, ea, rfl⟩ := hx.ref
    obtain ⟨b, eb, rfl⟩ := hy.ref
    split at h
    · rename_i o v e1 e2
      simp only [Bool.and_eq_true] at h
      obtain ⟨ys, h1, h2⟩ := (hr.get n a _ ea e1).l h.1.1
      obtain ⟨zs, h3, h4⟩ := (hr.get m b _ eb e2).l h.1.2
      exact ⟨a, b, ys, zs, rfl, rfl, h1, h3, by rw [← h2.length, ← h4.length]; simpa using h.2⟩
    · cases h
  · cases h
theorem s_eq {K : PySem.W.Frag} {W : WX} : Snd2 K W (rEqX K) f_eq := by
  intro r ih H x y u w σ Q hr hx hy q
  unfold f_eq f_eqn at q
  split at q
  · rename_i h
    have k := h.choose_spec
    exact .inl ⟨_, _, Is.dp hr _ _ _ k.1 hx, Is.dp hr _ _ _ k.2.1 hy, k.2.2.1, k.2.2.2, tG_end q hr rfl⟩
  · split at q
    · rename_i h
      obtain ⟨a, b, xs, ys, e1, e2, h1, h2, hl⟩ := lenNe_R hr hx hy h
      exact .inr (.inl ⟨a, b, xs, ys, e1, e2, h1, h2, hl, tG_end q hr rfl⟩)
    · split at q
      · rename_i a b _ _
        obtain rfl : u = .str a := hx
        obtain rfl : w = .str b := hy
        have e : decide (V.str a = V.str b) = decide (a = b) := by simp
        refine .inr (.inr ⟨rfl, tG_end q hr ?_⟩)
        rw [e]
        rfl
      · exact q.elim
theorem s_ne {K : PySem.W.Frag} {W : WX} : Snd2 K W (rNeX K) f_ne := by
  intro r ih H x y u w σ Q hr hx hy q
  unfold f_ne f_eqn at q
  split at q
  · rename_i h
    have k := h.choose_spec
    exact .inl ⟨_, _, Is.dp hr _ _ _ k.1 hx, Is.dp hr _ _ _ k.2.1 hy, k.2.2.1, k.2.2.2, tG_end q hr rfl⟩
  · split at q
    · rename_i h
      obtain ⟨a, b, xs, ys, e1, e2, h1, h2, hl⟩ := lenNe_R hr hx hy h
      exact .inr (.inl ⟨a, b, xs, ys, e1, e2, h1, h2, hl, tG_end q hr rfl⟩)
    · split at q
      · rename_i a b _ _
        obtain rfl : u = .str a := hx
        obtain rfl : w = .str b := hy
        have e : decide (V.str a = V.str b) = decide (a = b) := by simp
        refine .inr (.inr ⟨rfl, tG_end q hr ?_⟩)
        rw [e]
        rfl
      · exact q.elim
/-! ### is None -/
def f_isN (x y : IV) (ih : IH) : Res IV := if y = .non then .ok (.bl (decide (x = .non))) ih else .stuck
def f_notN (x y : IV) (ih : IH) : Res IV := if y = .non then .ok (.bl (!decide (x = .non))) ih else .stuck
theorem R.non {r : List Addr} {x : IV} {u : V} (h : R r x u) : decide (x = IV.non) = decide (u = V.non) := by
  cases x with
  | ref n =>
    obtain ⟨a, _, rfl⟩ := h.ref
    rfl
  | _ => rw [h.flat fun _ => IV.noConfusion]; rfl
theorem s_isN {K : PySem.W.Frag} {W : WX} : Snd2 K W (fun x y H Q => y = .non ∧ Q (.bl (decide (x = .non))) H) f_isN := by
  intro r ih H x y u w σ Q hr hx hy q
  unfold f_isN at q
  split at q
  · rename_i h
    subst h
    exact ⟨hy, tG_end q hr (by rw [hx.non]; rfl)⟩
  · exact q.elim
theorem s_notN {K : PySem.W.Frag} {W : WX} : Snd2 K W (fun x y H Q => y = .non ∧ Q (.bl (!decide (x = .non))) H) f_notN := by
  intro r ih H x y u w σ Q hr hx hy q
  unfold f_notN at q
  split at q
  · rename_i h
    subst h
    exact ⟨hy, tG_end q hr (by rw [hx.non]; rfl)⟩
  · exact q.elim
end L3
/-! L3d: displays, slices, built-in calls, methods; targets, statements, loops, comprehensions. -/
namespace L3
variable [TabT] [LamT]
open PySem L2

/-! ### displays -/
def f_tup (xs : List IV) (ih : IH) : Res IV := if xs.length ≤ 100000 then .ok (.ref ih.length) (ih ++ [.tup xs]) else .stuck
def f_lst (xs : List IV) (ih : IH) : Res IV := if xs.length ≤ 100000 then .ok (.ref ih.length) (ih ++ [.lst xs]) else .stuck
section
variable {X : Cx} {K : PySem.W.Frag} {W : WX} {es : List Expr} {m : Env → IH → Res (List IV)} {pos : Pos}
theorem s_tup : SndC K W (fun xs H Q => xs.length ≤ sizeLine ∧ ∀ p, H p = none → Q (.ref p) (upd H p (.tup xs))) f_tup := by
  intro r ih H xs us σ Q hr hx q
  unfold f_tup at q
  split at q
  · rename_i hl
    exact ⟨by rw [← hx.length]; exact line5 hl, fun p hp => end_tup q hr hx hp⟩
  · exact q.elim
theorem s_lst : SndC K W (fun xs H Q => xs.length ≤ sizeLine ∧ ∀ p, H p = none → Q (.ref p) (upd H p (.lst xs))) f_lst := by
  intro r ih H xs us σ Q hr hx q
  unfold f_lst at q
  split at q
  · rename_i hl
    exact ⟨by rw [← hx.length]; exact line5 hl, fun p hp => end_lst q hr hx hp⟩
  · exact q.elim
theorem lm_tup {x1} (h : PA X es (tMA X.K W m)) : PE X (.Tuple es x1 pos) (tM X.K W (m_app f_tup m)) :=
  PE.of (pe_tup h) fun σ H Q ⟨r, ih, env, hr, he, q⟩ => tG.imp (tG_bind hr he q) fun u H1 ⟨r1, ih1, v, p, hr1, hv, q1⟩ => s_tup _ _ _ _ _ _ _ hr1 hv q1
theorem lm_lst (h : PA X es (tMA X.K W m)) : PE X (.List es pos) (tM X.K W (m_app f_lst m)) :=
  PE.of (pe_lst h) fun σ H Q ⟨r, ih, env, hr, he, q⟩ => tG.imp (tG_bind hr he q) fun u H1 ⟨r1, ih1, v, p, hr1, hv, q1⟩ => s_lst _ _ _ _ _ _ _ hr1 hv q1
end

/-! ### slices -/
def m_none (_ : Env) (ih : IH) : Res (Option Int) := .ok none ih
def m_some (ma : Env → IH → Res IV) (env : Env) (ih : IH) : Res (Option Int) := (ma env ih).bind fun v ih1 => match v with
  | .int i => .ok (some i) ih1
  | _ => .stuck
def cutI (xs : List IV) (lo hi : Option Int) : List IV := (xs.drop (HT.sIx xs.length 0 lo)).take (HT.sIx xs.length xs.length hi - HT.sIx xs.length 0 lo)
def f_sl (x : IV) (lo hi : Option Int) (ih : IH) : Res IV := match x with
  | .ref n => match ih[n]? with
    | some (.lst xs) => .ok (.ref ih.length) (ih ++ [.lst (cutI xs lo hi)])
    | some (.ro xs) => .ok (.ref ih.length) (ih ++ [.lst (cutI xs lo hi)])
    | some (.tup xs) => if ¬ (HT.sIx xs.length 0 lo = 0 ∧ HT.sIx xs.length xs.length hi = xs.length) then .ok (.ref ih.length) (ih ++ [.tup (cutI xs lo hi)]) else .stuck
    | _ => .stuck
  | _ => .stuck
def m_sl (ma : Env → IH → Res IV) (ml mh : Env → IH → Res (Option Int)) (env : Env) (ih : IH) : Res IV := (ma env ih).bind fun x ih1 => (ml env ih1).bind fun l ih2 => (mh env ih2).bind fun h ih3 => f_sl x l h ih3
theorem Rs.cut {r : List Addr} {xs : List IV} {ys : List V} (h : Rs r xs ys) (lo hi : Option Int) : Rs r (cutI xs lo hi) (cutV ys lo hi) := by
  unfold cutV cutI
  rw [h.length]
  exact (h.drop _).take _
abbrev rSlA (K : PySem.W.Frag) : V → Option Int → Option Int → Hp → VK → Prop := fun x lo hi H Q => rSlL K x lo hi H Q ∨ rSlT K x lo hi H Q
section
variable {X : Cx} {K : PySem.W.Frag} {W : WX} {e : Expr} {lo hi : Option Expr} {ma : Env → IH → Res IV} {ml mh : Env → IH → Res (Option Int)} {pos p2 : Pos}
theorem sl_A : SlR X (rSlA X.K) := sl_list.or sl_tup
theorem s_sl {r : List Addr} {ih : IH} {H : Hp} {x : IV} {u : V} {l h : Option Int} {σ : St} {Q : VK} (hr : Rel K r ih H) (hx : R r x u) (q : PGen R K W σ r (f_sl x l h ih) Q) : rSlA K u l h H Q := by
  unfold f_sl at q
  split at q
  · rename_i n
    obtain ⟨a, ea, rfl⟩ := hx.ref
    split at q
    · rename_i xs e1
      obtain ⟨ys, h1, h2⟩ := (hr.get n a _ ea e1).l rfl
      exact .inl ⟨a, ys, rfl, h1, fun p hp => end_lst q hr (h2.cut l h) hp⟩
    · rename_i xs e1
      obtain ⟨ys, h1, h2⟩ := (hr.get n a _ ea e1).l rfl
      exact .inl ⟨a, ys, rfl, h1, fun p hp => end_lst q hr (h2.cut l h) hp⟩
    · rename_i xs e1
      obtain ⟨ys, h1, h2⟩ := (hr.get n a _ ea e1).t rfl
      split at q
      · rename_i hc
        refine .inr ⟨a, ys, rfl, h1, ?_, fun p hp => end_tup q hr (h2.cut l h) hp⟩
        have hl : xs.length = ys.length := h2.length
        rw [← hl]
        exact hc
      · exact q.elim
    · exact q.elim
  · exact q.elim
theorem lo_none : PO X none (tG Oq X.K W m_none) := ⟨fun pins s σ H Q I ⟨r, ih, env, hr, he, q⟩ => po_none.run pins s σ H Q I (tG_end q hr rfl)⟩
theorem lo_some (h : PE X e (tM X.K W ma)) : PO X (some e) (tG Oq X.K W (m_some ma)) := ⟨fun pins s σ H Q I ⟨r, ih, env, hr, he, q⟩ => (po_some h).run pins s σ H Q I (tG.imp (tG_bind hr he q) fun u H1 ⟨r1, ih1, v, p, hr1, hv, q1⟩ => by
  cases v with
  | int i =>
    obtain rfl : u = .int i := hv
    exact ⟨i, rfl, tG_end q1 hr1 rfl⟩
  | _ => exact q1.elim)⟩
theorem lm_sl (ha : PE X e (tM X.K W ma)) (hl : PO X lo (tG Oq X.K W ml)) (hh : PO X hi (tG Oq X.K W mh)) : PE X (.Subscript e (.Slice lo hi none p2) pos) (tM X.K W (m_sl ma ml mh)) :=
  PE.of (pe_slice sl_A ha hl hh) fun σ H Q ⟨r, ih, env, hr, he, q⟩ => tG.imp (tG_bind hr he q) fun u H1 ⟨r1, ih1, v, p, hr1, hv, q1⟩ =>
    tG.imp (tG_bind hr1 (he.mono p) q1) fun w H2 ⟨r2, ih2, y, p2, hr2, hy, q2⟩ => tG.imp (tG_bind hr2 ((he.mono p).mono p2) q2) fun z H3 ⟨r3, ih3, y3, p3, hr3, hy3, q3⟩ => by
      obtain rfl : w = y := hy
      obtain rfl : z = y3 := hy3
      exact s_sl hr3 ((hv.mono p2).mono p3) q3
end

theorem Rs.one {r : List Addr} {x : IV} {us : List V} (h : Rs r [x] us) : ∃ u, us = [u] ∧ R r x u := by
  cases h with
  | cons a b =>
    cases b
    exact ⟨_, rfl, a⟩
theorem Rs.two {r : List Addr} {x y : IV} {us : List V} (h : Rs r [x, y] us) : ∃ u w, us = [u, w] ∧ R r x u ∧ R r y w := by
  cases h with
  | cons a b =>
    obtain ⟨w, rfl, c⟩ := Rs.one b
    exact ⟨_, w, rfl, a, c⟩
/-! ### built-in calls -/
def f_len (xs : List IV) (ih : IH) : Res IV := match xs with
  | [.ref n] => match ih[n]? with
    | some .dct => .stuck
    | some (.dk _) => .stuck
    | some .clo => .stuck
    | some (.fn _ _) => .stuck
    | some o => .ok (.int o.xs.length) ih
    | none => .stuck
  | [.str z] => if z.length ≤ 1000000 then .ok (.int z.length) ih else .stuck
  | _ => .stuck
def f_int (xs : List IV) (ih : IH) : Res IV := match xs with
  | [.int i] => .ok (.int i) ih
  | [.bl b] => .ok (.int (if b then 1 else 0)) ih
  | _ => .stuck
def f_abs (xs : List IV) (ih : IH) : Res IV := match xs with
  | [.int i] => .ok (.int (if i < 0 then -i else i)) ih
  | _ => .stuck
def f_max2 (xs : List IV) (ih : IH) : Res IV := match xs with
  | [.int i, .int j] => .ok (.int (if j > i then j else i)) ih
  | _ => .stuck
def f_min2 (xs : List IV) (ih : IH) : Res IV := match xs with
  | [.int i, .int j] => .ok (.int (if j < i then j else i)) ih
  | _ => .stuck
/-- the ints of values that are ints; the bools -/
def ints? : List IV → Option (List Int)
  | [] => some []
  | .int i :: r => (ints? r).map (i :: ·)
  | _ :: _ => none
def bls? : List IV → Option (List Bool)
  | [] => some []
  | .bl i :: r => (bls? r).map (i :: ·)
  | _ :: _ => none
theorem ints?_of {xs : List IV} {ns : List Int} : ints? xs = some ns → xs = ns.map IV.int := by
  induction xs generalizing ns with
  | nil => intro h; cases h; rfl
  | cons x r ihh =>
    intro h
    cases x with
    | int i =>
      unfold ints? at h
      obtain ⟨ms, e, rfl⟩ := Option.map_eq_some_iff.mp h
      rw [ihh e]
      rfl
    | _ => cases h
theorem ints?_map (ns : List Int) : ints? (ns.map IV.int) = some ns := by
  induction ns with
  | nil => rfl
  | cons n r ihh =>
    rw [List.map_cons]
    unfold ints?
    rw [ihh]
    rfl
theorem bls?_of {xs : List IV} {ns : List Bool} : bls? xs = some ns → xs = ns.map IV.bl := by
  induction xs generalizing ns with
  | nil => intro h; cases h; rfl
  | cons x r ihh =>
    intro h
    cases x with
    | bl i =>
      unfold bls? at h
      obtain ⟨ms, e, rfl⟩ := Option.map_eq_some_iff.mp h
      rw [ihh e]
      rfl
    | _ => cases h
theorem bls?_map (ns : List Bool) : bls? (ns.map IV.bl) = some ns := by
  induction ns with
  | nil => rfl
  | cons n r ihh =>
    rw [List.map_cons]
    unfold bls?
    rw [ihh]
    rfl
theorem Rs.flats {r : List Addr} {α : Type} {f : α → IV} (hf : ∀ a n, f a ≠ .ref n) : ∀ {ns : List α} {ys : List V}, Rs r (ns.map f) ys → ys = ns.map fun a => (f a).toV
  | [], _, h => by cases h; rfl
  | n :: r, _, h => by
    cases h with
    | cons h1 h2 => rw [List.map_cons, h1.flat (hf n), Rs.flats hf h2]
theorem Rs.flats_mk {r : List Addr} {α : Type} {f : α → IV} {g : α → V} (hf : ∀ a, R r (f a) (g a)) : ∀ ns : List α, Rs r (ns.map f) (ns.map g)
  | [] => .nil
  | n :: l => .cons (hf n) (Rs.flats_mk hf l)
/-- a call of a list of ints (or of bools) -/
def f_ints (g : List Int → IH → Res IV) (xs : List IV) (ih : IH) : Res IV := match xs with
  | [.ref n] => match ih[n]? with
    | some o => if o.isL = true then (match ints? o.xs with
      | some ns => g ns ih
      | none => .stuck) else .stuck
    | none => .stuck
  | _ => .stuck
def f_bls (g : List Bool → IH → Res IV) (xs : List IV) (ih : IH) : Res IV := match xs with
  | [.ref n] => match ih[n]? with
    | some o => if o.isL = true then (match bls? o.xs with
      | some ns => g ns ih
      | none => .stuck) else .stuck
    | none => .stuck
  | _ => .stuck
def f_sum := f_ints fun ns ih => .ok (.int ns.sum) ih
def f_all := f_bls fun ns ih => .ok (.bl (ns.all id)) ih
def f_any := f_bls fun ns ih => .ok (.bl (ns.any id)) ih
def maxI : List Int → Int
  | [] => 0
  | [a] => a
  | a :: b :: r => max a (maxI (b :: r))
def minI : List Int → Int
  | [] => 0
  | [a] => a
  | a :: b :: r => min a (minI (b :: r))
theorem maxI_spec : ∀ {ns : List Int}, 0 < ns.length → maxI ns ∈ ns ∧ ∀ y ∈ ns, y ≤ maxI ns
  | [a], _ => ⟨List.mem_singleton.mpr rfl, fun y hy => by rw [List.mem_singleton.mp hy]; exact Int.le_refl _⟩
  | a :: b :: r, _ => by
    obtain ⟨h1, h2⟩ := maxI_spec (ns := b :: r) (by simp)
    show max a (maxI (b :: r)) ∈ _ ∧ _
    refine ⟨?_, fun y hy => ?_⟩
    · by_cases h : a ≤ maxI (b :: r)
      · rw [Int.max_eq_right h]
        exact List.mem_cons_of_mem _ h1
      · rw [Int.max_eq_left (by omega)]
        exact List.mem_cons_self
    · show y ≤ max a (maxI (b :: r))
      rcases List.mem_cons.mp hy with e | e
      · omega
      · have := h2 y e
        omega
theorem minI_spec : ∀ {ns : List Int}, 0 < ns.length → minI ns ∈ ns ∧ ∀ y ∈ ns, minI ns ≤ y
  | [a], _ => ⟨List.mem_singleton.mpr rfl, fun y hy => by rw [List.mem_singleton.mp hy]; exact Int.le_refl _⟩
  | a :: b :: r, _ => by
    obtain ⟨h1, h2⟩ := minI_spec (ns := b :: r) (by simp)
    show min a (minI (b :: r)) ∈ _ ∧ _
    refine ⟨?_, fun y hy => ?_⟩
    · by_cases h : a ≤ minI (b :: r)
      · rw [Int.min_eq_left h]
        exact List.mem_cons_self
      · rw [Int.min_eq_right (by omega)]
        exact List.mem_cons_of_mem _ h1
    · show min a (minI (b :: r)) ≤ y
      rcases List.mem_cons.mp hy with e | e
      · omega
      · have := h2 y e
        omega
def f_max1 := f_ints fun ns ih => if 0 < ns.length then .ok (.int (maxI ns)) ih else .stuck
def f_min1 := f_ints fun ns ih => if 0 < ns.length then .ok (.int (minI ns)) ih else .stuck
def f_list (xs : List IV) (ih : IH) : Res IV := match xs with
  | [.ref n] => match ih[n]? with
    | some .dct => .stuck
    | some (.dk _) => .stuck
    | some .clo => .stuck
    | some (.fn _ _) => .stuck
    | some o => .ok (.ref ih.length) (ih ++ [.lst o.xs])
    | none => .stuck
  | _ => .stuck
def f_tuple (xs : List IV) (ih : IH) : Res IV := match xs with
  | [.ref n] => match ih[n]? with
    | some o => if o.isL = true then .ok (.ref ih.length) (ih ++ [.tup o.xs]) else if o.isT = true then .ok (.ref n) ih else .stuck
    | none => .stuck
  | _ => .stuck
/-- the type of a value -/
def tyN (x : IV) (ih : IH) : Option String := match x with
  | .non => some "NoneType"
  | .bl _ => some "bool"
  | .int _ => some "int"
  | .str _ => some "str"
  | .ref n => match ih[n]? with
    | some (.lst _) => some "list"
    | some (.tup _) => some "tuple"
    | some .dct => some "dict"
    | some (.dk _) => some "dict"
    | _ => none
  | _ => none
def f_isi (xs : List IV) (ih : IH) : Res IV := match xs with
  | [x, .ty T] => match tyN x ih with
    | some t => match kitB t T with
      | some b => .ok (.bl b) ih
      | none => .stuck
    | none => .stuck
  | _ => .stuck
section
variable {X : Cx} {K : PySem.W.Frag} {W : WX}
theorem s_len : SndC K W (fun xs H Q => (∃ p ys, xs = [.ref p] ∧ (SqL K H p ys ∨ SqT K H p ys) ∧ Q (.int ys.length) H) ∨ (∃ z, xs = [.str z] ∧ z.length ≤ sizeLine ∧ Q (.int z.length) H)) f_len := by
  intro r ih H xs us σ Q hr hx q
  unfold f_len at q
  split at q
  · rename_i n
    cases hx with
    | cons h1 h2 =>
      cases h2
      obtain ⟨a, ea, rfl⟩ := h1.ref
      split at q
      · exact q.elim
      · exact q.elim
      · exact q.elim
      · exact q.elim
      · rename_i o nd nk nc nf e1
        have ho := hr.get n a _ ea e1
        refine .inl ?_
        cases hl : o.isL with
        | true =>
          obtain ⟨ys, h3, h4⟩ := ho.l hl
          exact ⟨a, ys, rfl, .inl h3, by rw [← h4.length]; exact tG_end q hr rfl⟩
        | false =>
          obtain ⟨ys, h3, h4⟩ := ho.t (MO.tf hl nd nc nk nf)
          exact ⟨a, ys, rfl, .inr h3, by rw [← h4.length]; exact tG_end q hr rfl⟩
      · exact q.elim
  · rename_i z
    cases hx with
    | cons h1 h2 =>
      cases h2
      obtain rfl := h1.flat fun _ => IV.noConfusion
      split at q
      · rename_i hl
        exact .inr ⟨z, rfl, line6 hl, tG_end q hr rfl⟩
      · exact q.elim
  · exact q.elim
theorem call_lenA : CallR X (.builtin "len") (fun xs H Q => (∃ p ys, xs = [.ref p] ∧ (SqL X.K H p ys ∨ SqT X.K H p ys) ∧ Q (.int ys.length) H) ∨ (∃ z, xs = [.str z] ∧ z.length ≤ sizeLine ∧ Q (.int z.length) H)) := call_len_seq.or call_len_str
theorem s_int : SndC K W (fun xs H Q => (∃ i, xs = [.int i] ∧ Q (.int i) H) ∨ ∃ k, xs = [.bl k] ∧ Q (.int (if k then 1 else 0)) H) f_int := by
  intro r ih H xs us σ Q hr hx q
  unfold f_int at q
  split at q
  · rename_i i
    obtain rfl := Rs.flats (f := IV.int) (fun _ _ => IV.noConfusion) (ns := [i]) hx
    exact .inl ⟨i, rfl, tG_end q hr rfl⟩
  · rename_i b
    obtain rfl := Rs.flats (f := IV.bl) (fun _ _ => IV.noConfusion) (ns := [b]) hx
    exact .inr ⟨b, rfl, tG_end q hr rfl⟩
  · exact q.elim
theorem s_abs : SndC K W (fun xs H Q => ∃ i, xs = [.int i] ∧ Q (.int (if i < 0 then -i else i)) H) f_abs := by
  intro r ih H xs us σ Q hr hx q
  unfold f_abs at q
  split at q
  · rename_i i
    obtain rfl := Rs.flats (f := IV.int) (fun _ _ => IV.noConfusion) (ns := [i]) hx
    exact ⟨i, rfl, tG_end q hr rfl⟩
  · exact q.elim
theorem s_max2 : SndC K W (fun xs H Q => ∃ i j, xs = [.int i, .int j] ∧ Q (.int (if j > i then j else i)) H) f_max2 := by
  intro r ih H xs us σ Q hr hx q
  unfold f_max2 at q
  split at q
  · rename_i i j
    obtain rfl := Rs.flats (f := IV.int) (fun _ _ => IV.noConfusion) (ns := [i, j]) hx
    exact ⟨i, j, rfl, tG_end q hr rfl⟩
  · exact q.elim
theorem s_min2 : SndC K W (fun xs H Q => ∃ i j, xs = [.int i, .int j] ∧ Q (.int (if j < i then j else i)) H) f_min2 := by
  intro r ih H xs us σ Q hr hx q
  unfold f_min2 at q
  split at q
  · rename_i i j
    obtain rfl := Rs.flats (f := IV.int) (fun _ _ => IV.noConfusion) (ns := [i, j]) hx
    exact ⟨i, j, rfl, tG_end q hr rfl⟩
  · exact q.elim
/-- one list of ints: what is known -/
theorem ints_got {r : List Addr} {ih : IH} {H : Hp} {xs : List IV} {us : List V} {σ : St} {Q : VK} {g : List Int → IH → Res IV} (hr : Rel K r ih H) (hx : Rs r xs us) (q : PGen R K W σ r (f_ints g xs ih) Q) :
    ∃ (a : Addr) (ns : List Int), us = [.ref a] ∧ SqL K H a (ns.map V.int) ∧ PGen R K W σ r (g ns ih) Q := by
  unfold f_ints at q
  split at q
  · rename_i n
    cases hx with
    | cons h1 h2 =>
      cases h2
      obtain ⟨a, ea, rfl⟩ := h1.ref
      split at q
      · rename_i o e1
        split at q
        · rename_i hl
          split at q
          · rename_i ns e2
            obtain ⟨ys, h3, h4⟩ := (hr.get n a _ ea e1).l hl
            rw [ints?_of e2] at h4
            obtain rfl := h4.flats fun _ _ => IV.noConfusion
            exact ⟨a, ns, rfl, h3, q⟩
          · exact q.elim
        · exact q.elim
      · exact q.elim
  · exact q.elim
theorem bls_got {r : List Addr} {ih : IH} {H : Hp} {xs : List IV} {us : List V} {σ : St} {Q : VK} {g : List Bool → IH → Res IV} (hr : Rel K r ih H) (hx : Rs r xs us) (q : PGen R K W σ r (f_bls g xs ih) Q) :
    ∃ (a : Addr) (ns : List Bool), us = [.ref a] ∧ SqL K H a (ns.map V.bl) ∧ PGen R K W σ r (g ns ih) Q := by
  unfold f_bls at q
  split at q
  · rename_i n
    cases hx with
    | cons h1 h2 =>
      cases h2
      obtain ⟨a, ea, rfl⟩ := h1.ref
      split at q
      · rename_i o e1
        split at q
        · rename_i hl
          split at q
          · rename_i ns e2
            obtain ⟨ys, h3, h4⟩ := (hr.get n a _ ea e1).l hl
            rw [bls?_of e2] at h4
            obtain rfl := h4.flats fun _ _ => IV.noConfusion
            exact ⟨a, ns, rfl, h3, q⟩
          · exact q.elim
        · exact q.elim
      · exact q.elim
  · exact q.elim
theorem s_sum : SndC K W (rSum K) f_sum := fun r ih H xs us σ Q hr hx q => let ⟨a, ns, e, h, q2⟩ := ints_got hr hx q; ⟨a, ns, e, h, tG_end q2 hr rfl⟩
theorem s_all : SndC K W (rAll K) f_all := fun r ih H xs us σ Q hr hx q => let ⟨a, ns, e, h, q2⟩ := bls_got hr hx q; ⟨a, ns, e, h, tG_end q2 hr rfl⟩
theorem s_any : SndC K W (rAny K) f_any := fun r ih H xs us σ Q hr hx q => let ⟨a, ns, e, h, q2⟩ := bls_got hr hx q; ⟨a, ns, e, h, tG_end q2 hr rfl⟩
theorem s_max1 : SndC K W (rMax K) f_max1 := fun r ih H xs us σ Q hr hx q => by
  obtain ⟨a, ns, e, h, q2⟩ := ints_got hr hx q
  split at q2
  · rename_i hl
    refine ⟨a, ns, e, h, hl, fun m hm hle => ?_⟩
    obtain ⟨h1, h2⟩ := maxI_spec hl
    have e2 : m = maxI ns := Int.le_antisymm (h2 m hm) (hle _ h1)
    rw [e2]
    exact tG_end q2 hr rfl
  · exact q2.elim
theorem s_min1 : SndC K W (rMin K) f_min1 := fun r ih H xs us σ Q hr hx q => by
  obtain ⟨a, ns, e, h, q2⟩ := ints_got hr hx q
  split at q2
  · rename_i hl
    refine ⟨a, ns, e, h, hl, fun m hm hle => ?_⟩
    obtain ⟨h1, h2⟩ := minI_spec hl
    have e2 : m = minI ns := Int.le_antisymm (hle _ h1) (h2 m hm)
    rw [e2]
    exact tG_end q2 hr rfl
  · exact q2.elim
theorem s_list : SndC K W (fun xs H Q => ∃ p ys, xs = [.ref p] ∧ (SqL K H p ys ∨ SqT K H p ys) ∧ ∀ l, H l = none → Q (.ref l) (upd H l (.lst ys))) f_list := by
  intro r ih H xs us σ Q hr hx q
  unfold f_list at q
  split at q
  · rename_i n
    cases hx with
    | cons h1 h2 =>
      cases h2
      obtain ⟨a, ea, rfl⟩ := h1.ref
      split at q
      · exact q.elim
      · exact q.elim
      · exact q.elim
      · exact q.elim
      · rename_i o nd nk nc nf e1
        have ho := hr.get n a _ ea e1
        cases hl : o.isL with
        | true =>
          obtain ⟨ys, h3, h4⟩ := ho.l hl
          exact ⟨a, ys, rfl, .inl h3, fun l hp => end_lst q hr h4 hp⟩
        | false =>
          obtain ⟨ys, h3, h4⟩ := ho.t (MO.tf hl nd nc nk nf)
          exact ⟨a, ys, rfl, .inr h3, fun l hp => end_lst q hr h4 hp⟩
      · exact q.elim
  · exact q.elim
theorem s_tuple : SndC K W (fun xs H Q => ∃ p ys, xs = [.ref p] ∧ ((SqL K H p ys ∧ ∀ l, H l = none → Q (.ref l) (upd H l (.tup ys))) ∨ (SqT K H p ys ∧ Q (.ref p) H))) f_tuple := by
  intro r ih H xs us σ Q hr hx q
  unfold f_tuple at q
  split at q
  · rename_i n
    cases hx with
    | cons h1 h2 =>
      cases h2
      have h1' := h1
      obtain ⟨a, ea, rfl⟩ := h1.ref
      split at q
      · rename_i o e1
        have ho := hr.get n a _ ea e1
        split at q
        · rename_i hl
          obtain ⟨ys, h3, h4⟩ := ho.l hl
          exact ⟨a, ys, rfl, .inl ⟨h3, fun l hp => end_tup q hr h4 hp⟩⟩
        · split at q
          · rename_i hl
            obtain ⟨ys, h3, h4⟩ := ho.t hl
            exact ⟨a, ys, rfl, .inr ⟨h3, tG_end q hr h1'⟩⟩
          · exact q.elim
      · exact q.elim
  · exact q.elim
theorem s_isi : SndC K W (rIsi K) f_isi := by
  intro r ih H xs us σ Q hr hx q
  unfold f_isi at q
  split at q
  · rename_i x T
    obtain ⟨u, w, rfl, h1, h3⟩ := hx.two
    obtain rfl := h3.flat fun _ => IV.noConfusion
    · · split at q
        · rename_i t e1
          split at q
          · rename_i b e2
            have ty : TyX K H u (.type t) := by
              unfold tyN at e1
              split at e1
              · cases e1; obtain rfl := h1.flat fun _ => IV.noConfusion; exact .base .non
              · cases e1; obtain rfl := h1.flat fun _ => IV.noConfusion; exact .base (.bl _)
              · cases e1; obtain rfl := h1.flat fun _ => IV.noConfusion; exact .base (.int _)
              · cases e1; obtain rfl := h1.flat fun _ => IV.noConfusion; exact .base (.str _)
              · rename_i n
                obtain ⟨a, ea, rfl⟩ := h1.ref
                split at e1
                · rename_i xs e3
                  cases e1
                  obtain ⟨ys, h5, _⟩ := hr.get n a _ ea e3
                  exact .base (.lst h5)
                · rename_i xs e3
                  cases e1
                  obtain ⟨ys, h5, _⟩ := hr.get n a _ ea e3
                  exact .base (.tup h5)
                · rename_i e3
                  cases e1
                  obtain ⟨kvs, h5⟩ := hr.get n a _ ea e3
                  exact .base (.dK h5)
                · rename_i kvs e3
                  cases e1
                  obtain ⟨ys, h5, _⟩ := hr.get n a _ ea e3
                  exact .base (.dK h5)
                · cases e1
              · cases e1
            exact ⟨u, .ty T, .type t, .type T, b, rfl, .ty T, ty, kit_ty e2, tG_end q hr rfl⟩
          · exact q.elim
        · exact q.elim
  · exact q.elim
end
end L3
/-! L3e: methods; targets, statements, loops, comprehensions, calls, defs. -/
namespace L3
variable [TabT] [LamT]
open PySem L2

/-! ### methods of lists -/
def isLst (x : IV) (ih : IH) : Bool := match x with
  | .ref n => match ih[n]? with
    | some o => o.isL
    | none => false
  | _ => false
def m_mL (f : IV → List IV → IH → Res IV) (ma : Env → IH → Res IV) (mr : Env → IH → Res (List IV)) (env : Env) (ih : IH) : Res IV := (ma env ih).bind fun x ih1 => if isLst x ih1 = true then (mr env ih1).bind fun xs ih2 => f x xs ih2 else .stuck
def m_mL0 (f : IV → List IV → IH → Res IV) (ma : Env → IH → Res IV) (env : Env) (ih : IH) : Res IV := (ma env ih).bind fun x ih1 => if isLst x ih1 = true then f x [] ih1 else .stuck
def SndM (K : PySem.W.Frag) (W : WX) (rr : V → List V → Hp → VK → Prop) (f : IV → List IV → IH → Res IV) : Prop := ∀ (r : List Addr) (ih : IH) (H : Hp) (x : IV) (u : V) (xs : List IV) (us : List V) (σ : St) (Q : VK), Rel K r ih H → R r x u → Rs r xs us → PGen R K W σ r (f x xs ih) Q → rr u us H Q
def f_append (x : IV) (vs : List IV) (ih : IH) : Res IV := match x, vs with
  | .ref n, [y] => match ih[n]? with
    | some (.lst xs) => if xs.length < 100000 then .ok .non (ih.set n (.lst (xs ++ [y]))) else .stuck
    | _ => .stuck
  | _, _ => .stuck
def f_pop (x : IV) (vs : List IV) (ih : IH) : Res IV := match x, vs with
  | .ref n, [] => match ih[n]? with
    | some (.lst xs) => match xs[xs.length - 1]? with
      | some y => .ok y (ih.set n (.lst xs.dropLast))
      | none => .stuck
    | _ => .stuck
  | _, _ => .stuck
section
variable {X : Cx} {K : PySem.W.Frag} {W : WX} {a : Expr} {ma : Env → IH → Res IV}
theorem isLst_ty {r : List Addr} {ih : IH} {H : Hp} {x : IV} {u : V} (hr : Rel K r ih H) (hx : R r x u) (h : isLst x ih = true) : tyV K "list" u H := by
  unfold isLst at h
  split at h
  · rename_i n
    obtain ⟨a, ea, rfl⟩ := hx.ref
    split at h
    · rename_i o e1
      obtain ⟨ys, h1, _⟩ := (hr.get n a _ ea e1).l h
      exact .inl ⟨rfl, ys, h1⟩
    · cases h
  · cases h
theorem lm_mL {name : Str} {apos cpos : Pos} {id : String} {e : Expr} {es : List Expr} {rr : V → List V → Hp → VK → Prop} {f : IV → List IV → IH → Res IV} {mr : Env → IH → Res (List IV)} (slot : Slot "list" name id) (hty : typeOf (.builtin id) = pure (.type "method_descriptor")) (hm : MtR X id rr) (hf : SndM X.K W rr f)
    (ho : PE X a (tM X.K W ma)) (ha : PA X (e :: es) (tMA X.K W mr))
    (hbase : attributeBase a name X.env (eval a X.env) = eval a X.env := by rfl)
    (hfew : ((backTo cpos (starEach (e :: es) X.env)).all (fun x => !x.1) && (backToKw cpos (keywordEach [] X.env)).all (fun x => x.1.isSome)
      && decide ((e :: es).length + ([] : List Keyword).length + (if ([] : List Keyword).isEmpty then 0 else 1) < 30)) = true := by rfl)
    (hline : (apos.endLine == cpos.line) = true := by rfl) (hs : starEach (e :: es) X.env = (false, eval e X.env) :: starEach es X.env := by rfl) (hplain : (backTo cpos (starEach es X.env)).any (·.1) = false := by rfl) :
    PE X (.Call (.Attribute a name apos) (e :: es) [] cpos) (tM X.K W (m_mL f ma mr)) :=
  PE.of (pe_bm PySem.F.plainAttrs_list slot hty hm ho ha hbase hfew hline hs hplain) fun σ H Q ⟨r, ih, env, hr, he, q⟩ => tG.imp (tG_bind hr he q) fun u H1 ⟨r1, ih1, v, p, hr1, hv, q1⟩ => by
    dsimp only at q1
    by_cases hl : isLst v ih1 = true
    · rw [if_pos hl] at q1
      refine ⟨isLst_ty hr1 hv hl, ?_⟩
      exact tG.imp (tG_bind hr1 (he.mono p) q1) fun w H2 ⟨r2, ih2, y, p2, hr2, hy, q3⟩ => hf _ _ _ _ _ _ _ _ _ hr2 (hv.mono p2) hy q3
    · rw [if_neg hl] at q1
      exact q1.elim
theorem lm_mL0 {name : Str} {apos cpos : Pos} {id : String} {rr : V → List V → Hp → VK → Prop} {f : IV → List IV → IH → Res IV} (slot : Slot "list" name id) (hty : typeOf (.builtin id) = pure (.type "method_descriptor")) (hm : MtR X id rr) (hf : SndM X.K W rr f)
    (ho : PE X a (tM X.K W ma)) (hbase : attributeBase a name X.env (eval a X.env) = eval a X.env := by rfl) (hline : (apos.endLine == cpos.line) = true := by rfl) :
    PE X (.Call (.Attribute a name apos) [] [] cpos) (tM X.K W (m_mL0 f ma)) :=
  PE.of (pe_bm0 PySem.F.plainAttrs_list slot hty hm ho hbase hline) fun σ H Q ⟨r, ih, env, hr, he, q⟩ => tG.imp (tG_bind hr he q) fun u H1 ⟨r1, ih1, v, p, hr1, hv, q1⟩ => by
    dsimp only at q1
    by_cases hl : isLst v ih1 = true
    · rw [if_pos hl] at q1
      exact ⟨isLst_ty hr1 hv hl, hf _ _ _ _ _ _ _ _ _ hr1 hv .nil q1⟩
    · rw [if_neg hl] at q1
      exact q1.elim
/-- a list written -/
theorem end_set {r : List Addr} {ih : IH} {H : Hp} {σ : St} {Q : VK} {n : Nat} {a : Addr} {xs xs' : List IV} {ys : List V} {v : IV} {w : V} (q : PGen R K W σ r (.ok v (ih.set n (.lst xs'))) Q) (hr : Rel K r ih H) (e1 : r[n]? = some a) (e2 : ih[n]? = some (.lst xs)) (h : Rs r xs' ys) (hv : R r v w) : Q w (upd H a (.lst ys)) :=
  q _ _ _ (pre_refl r) (hr.write e1 e2 h) hv
theorem s_append : SndM K W rAppend f_append := by
  intro r ih H x u xs us σ Q hr hx hxs q
  unfold f_append at q
  split at q
  · rename_i n y
    obtain ⟨a, ea, rfl⟩ := hx.ref
    obtain ⟨w, rfl, hy⟩ := hxs.one
    split at q
    · rename_i zs e1
      obtain ⟨ys, h1, h2⟩ := hr.get n a _ ea e1
      split at q
      · rename_i hl
        exact ⟨a, ys, w, rfl, rfl, h1, by rw [← h2.length]; exact line5l hl, end_set q hr ea e1 (h2.append (.cons hy .nil)) rfl⟩
      · exact q.elim
    · exact q.elim
  · exact q.elim
theorem Rs.dropLast {r : List Addr} {xs : List IV} {us : List V} (h : Rs r xs us) : Rs r xs.dropLast us.dropLast := by
  rw [List.dropLast_eq_take, List.dropLast_eq_take, h.length]
  exact h.take _
theorem s_pop : SndM K W rPop f_pop := by
  intro r ih H x u xs us σ Q hr hx hxs q
  unfold f_pop at q
  split at q
  · rename_i n
    obtain ⟨a, ea, rfl⟩ := hx.ref
    cases hxs
    split at q
    · rename_i zs e1
      obtain ⟨ys, h1, h2⟩ := hr.get n a _ ea e1
      split at q
      · rename_i y e2
        obtain ⟨w, h3, h4⟩ := h2.get e2
        exact ⟨a, ys, w, rfl, rfl, h1, by rw [← h2.length]; exact h3, end_set q hr ea e1 h2.dropLast h4⟩
      · exact q.elim
    · exact q.elim
  · exact q.elim
end

/-! ### targets -/
/-- a target's rule follows its mirror; ks: the slots that it sets -/
def SndG (K : PySem.W.Frag) (ks : List Nat) (g : TG) (f : IV → Env → IH → Option Env) : Prop := ∀ (r : List Addr) (ih : IH) (H : Hp) (v : IV) (u : V) (env : Env) (σ : St) (Q : St → Hp → Prop), Rel K r ih H → R r v u → REnv r env σ →
  (∃ env', f v env ih = some env' ∧ ∀ σ', REnv r env' σ' → σ'.length = σ.length → (∀ j, j ∉ ks → σ'[j]? = σ[j]?) → Q σ' H) → g u σ H Q
def SndGs (K : PySem.W.Frag) (ks : List Nat) (g : TGs) (f : List IV → Env → IH → Option Env) : Prop := ∀ (r : List Addr) (ih : IH) (H : Hp) (v : List IV) (u : List V) (env : Env) (σ : St) (Q : St → Hp → Prop), Rel K r ih H → Rs r v u → REnv r env σ →
  (∃ env', f v env ih = some env' ∧ ∀ σ', REnv r env' σ' → σ'.length = σ.length → (∀ j, j ∉ ks → σ'[j]? = σ[j]?) → Q σ' H) → g u σ H Q
def g_nm (i : Nat) (v : IV) (env : Env) (_ : IH) : Option Env := some (env.set i (some v))
def g_nil (vs : List IV) (env : Env) (_ : IH) : Option Env := match vs with
  | [] => some env
  | _ :: _ => none
def g_cons (f : IV → Env → IH → Option Env) (g : List IV → Env → IH → Option Env) (vs : List IV) (env : Env) (ih : IH) : Option Env := match vs with
  | v :: r => (f v env ih).bind fun env' => g r env' ih
  | [] => none
def g_tup (n : Nat) (f : List IV → Env → IH → Option Env) (v : IV) (env : Env) (ih : IH) : Option Env := match v with
  | .ref k => match ih[k]? with
    | some o => if o.isT = true ∧ o.xs.length = n then f o.xs env ih else none
    | none => none
  | _ => none
def g_lst (n : Nat) (f : List IV → Env → IH → Option Env) (v : IV) (env : Env) (ih : IH) : Option Env := match v with
  | .ref k => match ih[k]? with
    | some o => if o.isL = true ∧ o.xs.length = n then f o.xs env ih else none
    | none => none
  | _ => none
section
variable {K : PySem.W.Frag}
theorem sg_nm (i : Nat) : SndG K [i] (gName i) (g_nm i) := fun r ih H v u env σ Q hr hv he ⟨env', e, q⟩ => by
  cases e
  exact q _ (he.set hv i) (by rw [List.length_set]) fun j hj => List.getElem?_set_ne (fun z => hj (by rw [z]; exact List.mem_singleton.mpr rfl))
theorem sg_nil : SndGs K [] gNil g_nil := fun r ih H v u env σ Q hr hv he ⟨env', e, q⟩ => by
  cases v with
  | nil =>
    cases hv
    cases e
    exact ⟨rfl, q σ he rfl fun _ _ => rfl⟩
  | cons a b => cases e
theorem sg_cons {ks ls : List Nat} {t : TG} {u : TGs} {f : IV → Env → IH → Option Env} {g : List IV → Env → IH → Option Env} (h1 : SndG K ks t f) (h2 : SndGs K ls u g) : SndGs K (ks ++ ls) (gCons t u) (g_cons f g) := fun r ih H v u env σ Q hr hv he ⟨env', e, q⟩ => by
  cases hv with
  | nil => cases e
  | cons a b =>
    obtain ⟨env1, e1, e2⟩ := Option.bind_eq_some_iff.mp e
    refine ⟨_, _, rfl, h1 r ih H _ _ env σ _ hr a he ⟨env1, e1, fun σ1 he1 l1 k1 => ?_⟩⟩
    exact h2 r ih H _ _ env1 σ1 _ hr b he1 ⟨env', e2, fun σ2 he2 l2 k2 => q σ2 he2 (l2.trans l1) fun j hj => (k2 j fun z => hj (List.mem_append_right _ z)).trans (k1 j fun z => hj (List.mem_append_left _ z))⟩
theorem sg_tup {n : Nat} {ks : List Nat} {t : TGs} {f : List IV → Env → IH → Option Env} (h : SndGs K ks t f) : SndG K ks (gTup K n t) (g_tup n f) := fun r ih H v u env σ Q hr hv he ⟨env', e, q⟩ => by
  unfold g_tup at e
  split at e
  · rename_i k _
    obtain ⟨a, ea, rfl⟩ := hv.ref
    split at e
    · rename_i o e1
      split at e
      · rename_i hl
        obtain ⟨ys, h3, h4⟩ := (hr.get k a _ ea e1).t hl.1
        exact ⟨a, ys, rfl, h3, by rw [← h4.length]; exact hl.2, h r ih H _ _ env σ _ hr h4 he ⟨env', e, q⟩⟩
      · cases e
    · cases e
  · cases e
theorem sg_lst {n : Nat} {ks : List Nat} {t : TGs} {f : List IV → Env → IH → Option Env} (h : SndGs K ks t f) : SndG K ks (gLst K n t) (g_lst n f) := fun r ih H v u env σ Q hr hv he ⟨env', e, q⟩ => by
  unfold g_lst at e
  split at e
  · rename_i k _
    obtain ⟨a, ea, rfl⟩ := hv.ref
    split at e
    · rename_i o e1
      split at e
      · rename_i hl
        obtain ⟨ys, h3, h4⟩ := (hr.get k a _ ea e1).l hl.1
        exact ⟨a, ys, rfl, h3, by rw [← h4.length]; exact hl.2, h r ih H _ _ env σ _ hr h4 he ⟨env', e, q⟩⟩
      · cases e
    · cases e
  · cases e
end

/-! ### statements -/
def ms_set (g : IV → Env → IH → Option Env) (m : Env → IH → Res IV) (env : Env) (ih : IH) : RS := (m env ih).stm env fun v ih1 => match g v env ih1 with
  | some env' => .ok (.next env') ih1
  | none => .stuck
def ms_expr (m : Env → IH → Res IV) (env : Env) (ih : IH) : RS := (m env ih).stm env fun _ ih1 => .ok (.next env) ih1
def ms_ret (m : Env → IH → Res IV) (env : Env) (ih : IH) : RS := (m env ih).stm env fun v ih1 => .ok (.ret v) ih1
def ms_retN (_ : Env) (ih : IH) : RS := .ok (.ret .non) ih
def ms_pass (env : Env) (ih : IH) : RS := .ok (.next env) ih
def ms_brk (env : Env) (ih : IH) : RS := .ok (.brk env) ih
def ms_cont (env : Env) (ih : IH) : RS := .ok (.cont env) ih
def ms_if (n : Env → IH → Res Bool) (ma mb : Env → IH → RS) (env : Env) (ih : IH) : RS := (n env ih).stm env fun b ih1 => if b = true then ma env ih1 else mb env ih1
def RS.seq (r : RS) (k : Env → IH → RS) : RS := match r with
  | .ok (.next env) ih => k env ih
  | z => z
@[simp] theorem RS.seq_next (env : Env) (ih : IH) (k : Env → IH → RS) : (RS.ok (.next env) ih).seq k = k env ih := rfl
@[simp] theorem RS.seq_ret (v : IV) (ih : IH) (k : Env → IH → RS) : (RS.ok (.ret v) ih).seq k = .ok (.ret v) ih := rfl
@[simp] theorem RS.seq_brk (v : Env) (ih : IH) (k : Env → IH → RS) : (RS.ok (.brk v) ih).seq k = .ok (.brk v) ih := rfl
@[simp] theorem RS.seq_cont (v : Env) (ih : IH) (k : Env → IH → RS) : (RS.ok (.cont v) ih).seq k = .ok (.cont v) ih := rfl
@[simp] theorem RS.seq_exc (c : Addr) (env : Env) (ih : IH) (k : Env → IH → RS) : (RS.exc c env ih).seq k = .exc c env ih := rfl
@[simp] theorem RS.seq_stuck (k : Env → IH → RS) : RS.stuck.seq k = .stuck := rfl
def ms_seq (ma mb : Env → IH → RS) (env : Env) (ih : IH) : RS := (ma env ih).seq mb
def ms_aug (i : Nat) (f : IV → IV → IH → Res IV) (m : Env → IH → Res IV) (env : Env) (ih : IH) : RS := match env[i]? with
  | some (some x) => (m env ih).stm env fun y ih1 => (f x y ih1).stm env fun z ih2 => .ok (.next (env.set i (some z))) ih2
  | _ => .stuck
def ms_par (i j : Nat) (m : Env → IH → Res (List IV)) (env : Env) (ih : IH) : RS := (m env ih).stm env fun vs ih1 => match vs with
  | [v, w] => .ok (.next ((env.set i (some v)).set j (some w))) ih1
  | _ => .stuck
/-- o[i] = v for a list -/
def f_setL (o i v : IV) (ih : IH) : Option IH := match o, i with
  | .ref n, .int k => match ih[n]? with
    | some (.lst xs) => match ixN xs.length k with
      | some j => some (ih.set n (.lst (xs.set j v)))
      | none => none
    | _ => none
  | _, _ => none
def ms_setL (m mo mi : Env → IH → Res IV) (env : Env) (ih : IH) : RS := (m env ih).stm env fun v ih1 => (mo env ih1).stm env fun o ih2 => (mi env ih2).stm env fun i ih3 => match f_setL o i v ih3 with
  | some ih4 => .ok (.next env) ih4
  | none => .stuck
def ms_raise (c : Addr) (env : Env) (ih : IH) : RS := .exc c env ih
section
variable {X : Cx} {K : PySem.W.Frag} {W : WX} {e : Expr} {m mo mi : Env → IH → Res IV} {n : Env → IH → Res Bool} {sa sb : Env → IH → RS} {pos : Pos} {r : List Addr} {ih : IH} {env : Env} {H : Hp} {σ : St} {D : Ends}
theorem st_end (h : PStm K W r (.ok (.next env) ih) D) (hr : Rel K r ih H) (he : REnv r env σ) : D.nx σ H := h r H σ (pre_refl r) hr he
theorem st_ret {v : IV} {u : V} (h : PStm K W r (.ok (.ret v) ih) D) (hr : Rel K r ih H) (hv : R r v u) : D.rt u H := h r H u (pre_refl r) hr hv
/-- the core of an assignment -/
theorem set_core {ks : List Nat} {g : TG} {f : IV → Env → IH → Option Env} (hg : SndG X.K ks g f) (h : tMS X.K W (ms_set f m) D σ H) : tM X.K W m σ H fun x H1 => g x σ H1 D.nx := by
  obtain ⟨r, ih, env, hr, he, q⟩ := h
  refine tG.imp (tG_stm hr he q) fun u H1 ⟨r1, ih1, v, p, hr1, hv, q1⟩ => ?_
  dsimp only at q1
  refine hg r1 ih1 H1 v u env σ _ hr1 hv (he.mono p) ?_
  cases e : f v env ih1 with
  | some env' =>
    rw [e] at q1
    exact ⟨env', rfl, fun σ' he' _ _ => st_end q1 hr1 he'⟩
  | none =>
    rw [e] at q1
    exact q1.elim
theorem ls_set {i : Nat} {x : Str} {pos' : Pos} (hN : X.N.Nodup) (hi : X.N[i]? = some x) (hx : Loc X.env.scope x) (he : PE X e (tM X.K W m)) (hs : swapsWith e (some (.Name x pos')) pos.line X.env = pure false := by rfl)
    (hf : X.fn x = true ∨ X.env.scope.names.lookup x = some .local := by first | exact .inl rfl | exact .inr rfl | assumption) : PS X (.Assign [.Name x pos'] e pos) (tMS X.K W (ms_set (g_nm i) m)) :=
  PS.of (ps_set hN hi hx he hs hf) fun D σ H h => set_core (sg_nm i) h
theorem ls_asg {tg : Expr} {ks : List Nat} {g : TG} {f : IV → Env → IH → Option Env} (he : PE X e (tM X.K W m)) (hg : PG X tg g) (sg : SndG X.K ks g f) (hs : swapsWithSole [tg] e pos.line X.env = pure false := by rfl) (hw : swappedStores [tg] e X.env = pure none := by rfl) (h1 : (assignEach [tg] X.env).map (·.2) = [assign tg X.env] := by rfl) :
    PS X (.Assign [tg] e pos) (tMS X.K W (ms_set f m)) := PS.of (ps_asg he hg hs hw h1) fun D σ H h => set_core sg h
theorem ls_expr (he : PE X e (tM X.K W m)) (hs : swapsWith e none pos.line X.env = pure false := by rfl) : PS X (.Expr e pos) (tMS X.K W (ms_expr m)) :=
  PS.of (ps_expr he hs) fun D σ H ⟨r, ih, env, hr, he, q⟩ => tG.imp (tG_stm hr he q) fun u H1 ⟨r1, ih1, v, p, hr1, hv, q1⟩ => st_end q1 hr1 (he.mono p)
theorem ls_ret (he : PE X e (tM X.K W m)) : PS X (.Return (some e) pos) (tMS X.K W (ms_ret m)) :=
  PS.of (ps_ret he) fun D σ H ⟨r, ih, env, hr, he, q⟩ => tG.imp (tG_stm hr he q) fun u H1 ⟨r1, ih1, v, p, hr1, hv, q1⟩ => st_ret q1 hr1 hv
theorem ls_retN : PS X (.Return none pos) (tMS X.K W ms_retN) := PS.of ps_retN fun D σ H ⟨r, ih, env, hr, he, q⟩ => st_ret q hr rfl
theorem ls_pass : PS X (.Pass pos) (tMS X.K W ms_pass) := PS.of ps_pass fun D σ H ⟨r, ih, env, hr, he, q⟩ => st_end q hr he
theorem ls_brk : PS X (.Break pos) (tMS X.K W ms_brk) := PS.of ps_break fun D σ H ⟨r, ih, env, hr, he, q⟩ => q r H σ (pre_refl r) hr he
theorem ls_cont : PS X (.Continue pos) (tMS X.K W ms_cont) := PS.of ps_continue fun D σ H ⟨r, ih, env, hr, he, q⟩ => q r H σ (pre_refl r) hr he
theorem ls_if {c : Expr} {a b : List Stmt} (hc : PT X c (tMT X.K W n)) (ha : PSs X a (tMS X.K W sa)) (hb : PSs X b (tMS X.K W sb)) : PS X (.If c a b pos) (tMS X.K W (ms_if n sa sb)) :=
  PS.of (ps_if hc ha hb) fun D σ H ⟨r, ih, env, hr, he, q⟩ => tG.imp (tG_stm hr he q) fun u H1 ⟨r1, ih1, v, p, hr1, hv, q1⟩ => by
    obtain rfl : u = v := hv
    cases u with
    | true => exact ⟨r1, ih1, env, hr1, he.mono p, q1⟩
    | false => exact ⟨r1, ih1, env, hr1, he.mono p, q1⟩
theorem lss_nil : PSs X [] (tMS X.K W ms_pass) := PSs.of pss_nil fun D σ H ⟨r, ih, env, hr, he, q⟩ => st_end q hr he
theorem lss_one {st : Stmt} (h : PS X st (tMS X.K W sa)) : PSs X [st] (tMS X.K W sa) := pss_one h
theorem lss_cons {st : Stmt} {rest : List Stmt} (h1 : PS X st (tMS X.K W sa)) (h2 : PSs X rest (tMS X.K W sb)) : PSs X (st :: rest) (tMS X.K W (ms_seq sa sb)) :=
  PSs.of (pss_cons h1 h2) fun D σ H ⟨r, ih, env, hr, he, q⟩ => by
    refine ⟨r, ih, env, hr, he, ?_⟩
    unfold ms_seq at q
    cases e : sa env ih with
    | ok f ih1 =>
      rw [e] at q
      cases f with
      | next env1 => exact fun r' H' σ' p hr' he' => ⟨r', ih1, env1, hr', he', PStm.mono p q⟩
      | brk env1 => exact q
      | cont env1 => exact q
      | ret v => exact q
    | exc c env1 ih1 => rw [e] at q; exact q
    | stuck => rw [e] at q; exact q
theorem ls_aug {i : Nat} {x : Str} {op : Operator} {rr : R2} {f : IV → IV → IH → Res IV} {pos' : Pos} (hN : X.N.Nodup) (hi : X.N[i]? = some x) (hx : Loc X.env.scope x) (ho : OpR X (inplaceOp op) rr) (hf : Snd2 X.K W rr f) (he : PE X e (tM X.K W m))
    (hfn : X.fn x = true ∨ X.env.scope.names.lookup x = some .local := by first | exact .inl rfl | exact .inr rfl | assumption) : PS X (.AugAssign (.Name x pos') op e pos) (tMS X.K W (ms_aug i f m)) :=
  PS.of (ps_aug (ti := rr) hN hi hx he (fun pins s σ H x y v u Q I rx ry q => ho pins s σ H x y v u Q I rx ry q) hfn) fun D σ H ⟨r, ih, env, hr, he, q⟩ => by
    unfold ms_aug at q
    split at q
    · rename_i v0 e0
      obtain ⟨u0, h1, h2⟩ := he.2 i v0 e0
      refine ⟨u0, h1, tG.imp (tG_stm hr he q) fun u H1 ⟨r1, ih1, v, p, hr1, hv, q1⟩ => ?_⟩
      dsimp only at q1
      refine hf r1 ih1 H1 v0 v u0 u σ _ hr1 (h2.mono p) hv ?_
      cases e : f v0 v ih1 with
      | ok z ih2 =>
        rw [e] at q1
        exact fun r' H' w p' hr' hw => q1 r' H' _ p' hr' ((he.mono (pre_trans p p')).set hw i)
      | exc c ih2 =>
        rw [e] at q1
        exact fun r' H' p' hr' => q1 r' H' σ p' hr' (he.mono (pre_trans p p'))
      | stuck =>
        rw [e] at q1
        exact q1
    · exact q.elim
theorem ls_par {i j : Nat} {x y : Str} {a b : Expr} {mm : Env → IH → Res (List IV)} {px py pt : Pos} {kt k2 : Nat} {pt2 : Pos} (hP : ∀ {ta : TA}, PA X [a, b] ta → PS X (.Assign [.Tuple [.Name x px, .Name y py] kt pt] (.Tuple [a, b] k2 pt2) pos) (tPar i j ta))
    (ha : PA X [a, b] (tMA X.K W mm)) : PS X (.Assign [.Tuple [.Name x px, .Name y py] kt pt] (.Tuple [a, b] k2 pt2) pos) (tMS X.K W (ms_par i j mm)) :=
  PS.of (hP ha) fun D σ H ⟨r, ih, env, hr, he, q⟩ => tG.imp (tG_stm hr he q) fun us H1 ⟨r1, ih1, vs, p, hr1, hv, q1⟩ => by
    dsimp only at q1
    split at q1
    · rename_i v w
      obtain ⟨u1, u2, rfl, h1, h2⟩ := hv.two
      exact ⟨u1, u2, rfl, st_end q1 hr1 (((he.mono p).set h1 i).set h2 j)⟩
    · exact q1.elim
theorem ls_setL {o i : Expr} {tpos : Pos} (he : PE X e (tM X.K W m)) (hg : ∀ {to ti : TE}, PE X o to → PE X i ti → PG X (.Subscript o i tpos) (gSub to ti rSetL)) (ho : PE X o (tM X.K W mo)) (hi : PE X i (tM X.K W mi))
    (hs : swapsWithSole [.Subscript o i tpos] e pos.line X.env = pure false := by rfl) (hw : swappedStores [.Subscript o i tpos] e X.env = pure none := by rfl) : PS X (.Assign [.Subscript o i tpos] e pos) (tMS X.K W (ms_setL m mo mi)) :=
  PS.of (ps_asg he (hg ho hi) hs hw) fun D σ H ⟨r, ih, env, hr, he, q⟩ => tG.imp (tG_stm hr he q) fun u H1 ⟨r1, ih1, v, p, hr1, hv, q1⟩ =>
    tG.imp (tG_stm hr1 (he.mono p) q1) fun u2 H2 ⟨r2, ih2, v2, p2, hr2, hv2, q2⟩ => tG.imp (tG_stm hr2 ((he.mono p).mono p2) q2) fun u3 H3 ⟨r3, ih3, v3, p3, hr3, hv3, q3⟩ => by
      dsimp only at q3
      cases e : f_setL v2 v3 v ih3 with
      | some ih4 =>
        rw [e] at q3
        unfold f_setL at e
        split at e
        · rename_i n k _
          obtain ⟨a, ea, rfl⟩ := (hv2.mono p3).ref
          obtain rfl : u3 = .int k := hv3
          split at e
          · rename_i xs e1
            obtain ⟨ys, h1, h2⟩ := hr3.get n a _ ea e1
            split at e
            · rename_i j ej
              cases e
              refine ⟨a, ys, k, j, rfl, rfl, h1, by rw [← h2.length]; exact ej, ?_⟩
              exact q3 r3 _ σ (pre_refl r3) (hr3.write ea e1 (h2.set ((hv.mono p2).mono p3) j)) (((he.mono p).mono p2).mono p3)
            · cases e
          · cases e
        · cases e
      | none =>
        rw [e] at q3
        exact q3.elim
theorem ls_raise {C : Addr} {bmB : List Value} {B newId initId : String} {x mm : Str} {j : Nat} {p p2 pos pos2 : Pos} (hc : X.calm = true) (tk : Takes X W) (F : ExcBaseFacts B newId initId bmB) (q : PySem.W.excIn X.K C bmB newId = true) (gC : X.mg x = some (.ref C)) (kC : PySem.W.keepIn X.K (.ref C) = true) (r : Raises X (.ref C)) (hg : Gl X x)
    (hdb : (x == ("__debug__" : Str)) = false := by decide) : PS X (.Raise (some (.Call (.Name x p) [.Constant (.str mm) j p2] [] pos)) none pos2) (tMS X.K W (ms_raise C)) :=
  PS.of (ps_raise hc tk (pmk_own F q gC kC r hg hdb)) fun D σ H ⟨r, ih, env, hr, he, q⟩ => q r H σ (pre_refl r) hr he
end
end L3
/-! L3f: what is walked, loops, comprehensions. -/
namespace L3
variable [TabT] [LamT]
open PySem L2

/-! ### what is walked -/
inductive Src where
  | lst (n : Nat) | tup (n : Nat) | rng (lo c : Int) (k : Nat) | enm (n : Nat) | zip (n m : Nat)
/-- the i-th turn: stuck, the end, or an item (the heap may grow) -/
inductive Tr where
  | stuck | stop | item (v : IV) (ih : IH)
def MO.isK (o : MO) : Bool → Bool
  | true => o.isL
  | false => o.isT
def lAt (ih : IH) (n : Nat) (l : Bool) : Option (List IV) := match ih[n]? with
  | some o => if o.isK l = true then some o.xs else none
  | none => none
def Src.turn (s : Src) (i : Nat) (ih : IH) : Tr := match s with
  | .lst n => match lAt ih n true with
    | some xs => match xs[i]? with
      | some v => .item v ih
      | none => .stop
    | none => .stuck
  | .tup n => match lAt ih n false with
    | some xs => match xs[i]? with
      | some v => .item v ih
      | none => .stop
    | none => .stuck
  | .rng lo c k => if i < k then .item (.int (lo + (i : Int) * c)) ih else .stop
  | .enm n => match lAt ih n true with
    | some xs => match xs[i]? with
      | some v => .item (.ref ih.length) (ih ++ [.tup [.int (i : Int), v]])
      | none => .stop
    | none => .stuck
  | .zip n m => match lAt ih n true, lAt ih m true with
    | some xs, some ys => match xs[i]?, ys[i]? with
      | some v, some w => .item (.ref ih.length) (ih ++ [.tup [v, w]])
      | _, _ => .stop
    | _, _ => .stuck
/-- how many turns there are at most -/
def Src.size (s : Src) (ih : IH) : Nat := match s with
  | .lst n => match ih[n]? with
    | some o => o.xs.length
    | none => 0
  | .tup n => match ih[n]? with
    | some o => o.xs.length
    | none => 0
  | .rng _ _ k => k
  | .enm n => match ih[n]? with
    | some o => o.xs.length
    | none => 0
  | .zip n _ => match ih[n]? with
    | some o => o.xs.length
    | none => 0
def SRel (K : PySem.W.Frag) (r : List Addr) (s : Src) (J : It) : Prop := match s with
  | .lst n => ∃ a, r[n]? = some a ∧ J = Itl K a
  | .tup n => ∃ a, r[n]? = some a ∧ J = Itt K a
  | .rng lo c k => J.go = (fun i _ => i < k) ∧ J.yld = (fun i H x H' => H' = H ∧ x = .int (lo + (i : Int) * c)) ∧ J.stop = fun i _ => k ≤ i
  | .enm n => ∃ a, r[n]? = some a ∧ J = Ite K a
  | .zip n m => ∃ a b, r[n]? = some a ∧ r[m]? = some b ∧ J = Itz K a b
section
variable {K : PySem.W.Frag} {r r' : List Addr} {ih : IH} {H : Hp}
theorem lAt_l {n : Nat} {xs : List IV} {a : Addr} (hr : Rel K r ih H) (ea : r[n]? = some a) (h : lAt ih n true = some xs) : ∃ ys, SqL K H a ys ∧ Rs r xs ys := by
  unfold lAt at h
  split at h
  · rename_i o e
    split at h
    · rename_i hl
      cases h
      exact (hr.get n a _ ea e).l hl
    · cases h
  · cases h
theorem lAt_t {n : Nat} {xs : List IV} {a : Addr} (hr : Rel K r ih H) (ea : r[n]? = some a) (h : lAt ih n false = some xs) : ∃ ys, SqT K H a ys ∧ Rs r xs ys := by
  unfold lAt at h
  split at h
  · rename_i o e
    split at h
    · rename_i hl
      cases h
      exact (hr.get n a _ ea e).t hl
    · cases h
  · cases h
theorem Rs.none {xs : List IV} {ys : List V} {i : Nat} (h : Rs r xs ys) (e : xs[i]? = none) : ys.length ≤ i := by
  rw [← h.length]
  exact List.getElem?_eq_none_iff.mp e
/-- a turn of the mirror is a turn of the iterator -/
theorem turn_ok {s : Src} {J : It} {i : Nat} (hj : SRel K r s J) (hr : Rel K r ih H) : match s.turn i ih with
    | .stuck => True
    | .stop => J.stop i H
    | .item v ih1 => J.go i H ∧ ∀ x H', J.yld i H x H' → ∃ r1, r <+: r1 ∧ Rel K r1 ih1 H' ∧ R r1 v x := by
  cases s with
  | lst n =>
    obtain ⟨a, ea, rfl⟩ := hj
    unfold Src.turn
    dsimp only
    cases e : lAt ih n true with
    | none => trivial
    | some xs =>
      obtain ⟨ys, h1, h2⟩ := lAt_l hr ea e
      dsimp only
      cases e2 : xs[i]? with
      | none => exact ⟨ys, h1, h2.none e2⟩
      | some v =>
        obtain ⟨y, h3, h4⟩ := h2.get e2
        refine ⟨⟨ys, y, h1, h3⟩, fun x H' hy => ?_⟩
        obtain ⟨rfl, hy⟩ := hy
        have := (hy _ h1).symm.trans h3
        cases this
        exact ⟨r, pre_refl r, hr, h4⟩
  | tup n =>
    obtain ⟨a, ea, rfl⟩ := hj
    unfold Src.turn
    dsimp only
    cases e : lAt ih n false with
    | none => trivial
    | some xs =>
      obtain ⟨ys, h1, h2⟩ := lAt_t hr ea e
      dsimp only
      cases e2 : xs[i]? with
      | none => exact ⟨ys, h1, h2.none e2⟩
      | some v =>
        obtain ⟨y, h3, h4⟩ := h2.get e2
        refine ⟨⟨ys, y, h1, h3⟩, fun x H' hy => ?_⟩
        obtain ⟨rfl, hy⟩ := hy
        have := (hy _ h1).symm.trans h3
        cases this
        exact ⟨r, pre_refl r, hr, h4⟩
  | rng lo c k =>
    obtain ⟨h1, h2, h3⟩ := hj
    unfold Src.turn
    dsimp only
    by_cases hk : i < k
    · rw [if_pos hk]
      dsimp only
      rw [h1, h2]
      refine ⟨hk, fun x H' hy => ?_⟩
      obtain ⟨rfl, rfl⟩ := hy
      exact ⟨r, pre_refl r, hr, rfl⟩
    · rw [if_neg hk]
      dsimp only
      rw [h3]
      exact Nat.le_of_not_lt hk
  | enm n =>
    obtain ⟨a, ea, rfl⟩ := hj
    unfold Src.turn
    dsimp only
    cases e : lAt ih n true with
    | none => trivial
    | some xs =>
      obtain ⟨ys, h1, h2⟩ := lAt_l hr ea e
      dsimp only
      cases e2 : xs[i]? with
      | none => exact ⟨ys, h1, h2.none e2⟩
      | some v =>
        obtain ⟨y, h3, h4⟩ := h2.get e2
        refine ⟨⟨ys, y, h1, h3⟩, fun x H' hy => ?_⟩
        obtain ⟨T, z, rfl, hT, rfl, hy⟩ := hy
        have := (hy _ h1).symm.trans h3
        cases this
        exact ⟨r ++ [T], pre_one, hr.new hT rfl fun H' e => ⟨_, e, .cons rfl (.cons h4 .nil)⟩, R.newest hr.len⟩
  | zip n m =>
    obtain ⟨a, b, ea, eb, rfl⟩ := hj
    unfold Src.turn
    dsimp only
    cases e : lAt ih n true with
    | none => trivial
    | some xs =>
      cases e' : lAt ih m true with
      | none => trivial
      | some zs =>
        obtain ⟨ys, h1, h2⟩ := lAt_l hr ea e
        obtain ⟨ws, k1, k2⟩ := lAt_l hr eb e'
        dsimp only
        cases e2 : xs[i]? with
        | none => exact ⟨ys, ws, h1, k1, .inl (h2.none e2)⟩
        | some v =>
          cases e3 : zs[i]? with
          | none => exact ⟨ys, ws, h1, k1, .inr (k2.none e3)⟩
          | some w =>
            obtain ⟨y, h3, h4⟩ := h2.get e2
            obtain ⟨z, k3, k4⟩ := k2.get e3
            refine ⟨⟨ys, ws, y, z, h1, k1, h3, k3⟩, fun x H' hy => ?_⟩
            obtain ⟨T, p, q, rfl, hT, rfl, hy, hz⟩ := hy
            have g1 := (hy _ h1).symm.trans h3
            have g2 := (hz _ k1).symm.trans k3
            cases g1
            cases g2
            exact ⟨r ++ [T], pre_one, hr.new hT rfl fun H' e => ⟨_, e, .cons h4 (.cons k4 .nil)⟩, R.newest hr.len⟩
theorem SRel.mono {s : Src} {J : It} (p : r <+: r') (h : SRel K r s J) : SRel K r' s J := by
  cases s with
  | lst n => obtain ⟨a, e, h⟩ := h; exact ⟨a, pre_get p e, h⟩
  | tup n => obtain ⟨a, e, h⟩ := h; exact ⟨a, pre_get p e, h⟩
  | rng lo c k => exact h
  | enm n => obtain ⟨a, e, h⟩ := h; exact ⟨a, pre_get p e, h⟩
  | zip n m => obtain ⟨a, b, e, e2, h⟩ := h; exact ⟨a, b, pre_get p e, pre_get p e2, h⟩
end
abbrev tMI (K : PySem.W.Frag) (W : WX) (m : Env → IH → Res Src) : TI := tG (SRel K) K W m
def mi_lst (m : Env → IH → Res IV) (env : Env) (ih : IH) : Res Src := (m env ih).bind fun v ih1 => match v with
  | .ref n => match lAt ih1 n true with
    | some _ => .ok (.lst n) ih1
    | none => .stuck
  | _ => .stuck
def mi_tup (m : Env → IH → Res IV) (env : Env) (ih : IH) : Res Src := (m env ih).bind fun v ih1 => match v with
  | .ref n => match lAt ih1 n false with
    | some _ => .ok (.tup n) ih1
    | none => .stuck
  | _ => .stuck
def mi_enm (m : Env → IH → Res (List IV)) (env : Env) (ih : IH) : Res Src := (m env ih).bind fun vs ih1 => match vs with
  | [.ref n] => match lAt ih1 n true with
    | some _ => .ok (.enm n) ih1
    | none => .stuck
  | _ => .stuck
def mi_zip (m : Env → IH → Res (List IV)) (env : Env) (ih : IH) : Res Src := (m env ih).bind fun vs ih1 => match vs with
  | [.ref n, .ref k] => match lAt ih1 n true, lAt ih1 k true with
    | some _, some _ => .ok (.zip n k) ih1
    | _, _ => .stuck
  | _ => .stuck
def smallI (i : Int) : Bool := decide (-(2 ^ 62) ≤ i) && decide (i < 2 ^ 62)
def mi_rng1 (m : Env → IH → Res (List IV)) (env : Env) (ih : IH) : Res Src := (m env ih).bind fun vs ih1 => match vs with
  | [.int j] => if smallI j = true then .ok (.rng 0 1 j.toNat) ih1 else .stuck
  | _ => .stuck
def mi_rng2 (m : Env → IH → Res (List IV)) (env : Env) (ih : IH) : Res Src := (m env ih).bind fun vs ih1 => match vs with
  | [.int i, .int j] => if smallI i = true ∧ smallI j = true then .ok (.rng i 1 (j - i).toNat) ih1 else .stuck
  | _ => .stuck
theorem smallI_of {i : Int} (h : smallI i = true) : -(2 ^ 62) ≤ i ∧ i < 2 ^ 62 := by
  unfold smallI at h
  rw [Bool.and_eq_true] at h
  exact ⟨of_decide_eq_true h.1, of_decide_eq_true h.2⟩
section
variable {X : Cx} {W : WX} {tg e e2 : Expr} {m : Env → IH → Res IV} {ml : Env → IH → Res (List IV)} {p pos tpos : Pos} {elts : List Expr} {kk : Nat}
theorem PI.of {t t' : TI} (h : PI X tg e t) (w : ∀ σ H Q, t' σ H Q → t σ H Q) : PI X tg e t' := ⟨fun pins s σ H Q I q => h.run pins s σ H Q I (w σ H Q q)⟩
theorem li_lst (h : PE X e (tM X.K W m)) : PI X tg e (tMI X.K W (mi_lst m)) := PI.of (pi_list h) fun σ H Q ⟨r, ih, env, hr, he, q⟩ => tG.imp (tG_bind hr he q) fun u H1 ⟨r1, ih1, v, p, hr1, hv, q1⟩ => by
  dsimp only at q1
  split at q1
  · rename_i n _
    obtain ⟨a, ea, rfl⟩ := hv.ref
    split at q1
    · rename_i xs e1
      obtain ⟨ys, h1, _⟩ := lAt_l hr1 ea e1
      exact ⟨a, rfl, ⟨ys, h1⟩, tG_end q1 hr1 ⟨a, ea, rfl⟩⟩
    · exact q1.elim
  · exact q1.elim
theorem li_tup (h : PE X e (tM X.K W m)) : PI X tg e (tMI X.K W (mi_tup m)) := PI.of (pi_tup h) fun σ H Q ⟨r, ih, env, hr, he, q⟩ => tG.imp (tG_bind hr he q) fun u H1 ⟨r1, ih1, v, p, hr1, hv, q1⟩ => by
  dsimp only at q1
  split at q1
  · rename_i n _
    obtain ⟨a, ea, rfl⟩ := hv.ref
    split at q1
    · rename_i xs e1
      obtain ⟨ys, h1, _⟩ := lAt_t hr1 ea e1
      exact ⟨a, rfl, ⟨ys, h1⟩, tG_end q1 hr1 ⟨a, ea, rfl⟩⟩
    · exact q1.elim
  · exact q1.elim
theorem li_enm (hg : Gl X "enumerate") (hm : X.mg "enumerate" = none) (ha : PA X [e] (tMA X.K W ml)) (hs : starEach [e] X.env = [(false, eval e X.env)] := by rfl) : PI X (.Tuple elts kk tpos) (.Call (.Name "enumerate" p) [e] [] pos) (tMI X.K W (mi_enm ml)) :=
  PI.of (pi_enum hg hm ha hs) fun σ H Q ⟨r, ih, env, hr, he, q⟩ => tG.imp (tG_bind hr he q) fun u H1 ⟨r1, ih1, v, p, hr1, hv, q1⟩ => by
    dsimp only at q1
    split at q1
    · rename_i n _
      obtain ⟨w, rfl, hw⟩ := hv.one
      obtain ⟨a, ea, rfl⟩ := hw.ref
      split at q1
      · rename_i xs e1
        obtain ⟨ys, h1, _⟩ := lAt_l hr1 ea e1
        exact ⟨a, ys, rfl, h1, tG_end q1 hr1 ⟨a, ea, rfl⟩⟩
      · exact q1.elim
    · exact q1.elim
theorem li_zip (hg : Gl X "zip") (hm : X.mg "zip" = none) (ha : PA X [e, e2] (tMA X.K W ml)) (hs : starEach [e, e2] X.env = (false, eval e X.env) :: starEach [e2] X.env := by rfl) (hpl : (backTo pos (starEach [e2] X.env)).any (·.1) = false := by rfl) :
    PI X (.Tuple elts kk tpos) (.Call (.Name "zip" p) [e, e2] [] pos) (tMI X.K W (mi_zip ml)) :=
  PI.of (pi_zip hg hm ha hs hpl) fun σ H Q ⟨r, ih, env, hr, he, q⟩ => tG.imp (tG_bind hr he q) fun u H1 ⟨r1, ih1, v, p, hr1, hv, q1⟩ => by
    dsimp only at q1
    split at q1
    · rename_i n k _
      obtain ⟨w, w2, rfl, hw, hw2⟩ := hv.two
      obtain ⟨a, ea, rfl⟩ := hw.ref
      obtain ⟨b, eb, rfl⟩ := hw2.ref
      split at q1
      · rename_i xs zs e1 e2
        obtain ⟨ys, h1, _⟩ := lAt_l hr1 ea e1
        obtain ⟨ws, h2, _⟩ := lAt_l hr1 eb e2
        exact ⟨a, b, ys, ws, rfl, h1, h2, tG_end q1 hr1 ⟨a, b, ea, eb, rfl⟩⟩
      · exact q1.elim
    · exact q1.elim
theorem li_rng1 (hg : Gl X "range") (hm : X.mg "range" = none) (ha : PA X [e] (tMA X.K W ml)) (hs : starEach [e] X.env = [(false, eval e X.env)] := by rfl) : PI X tg (.Call (.Name "range" p) [e] [] pos) (tMI X.K W (mi_rng1 ml)) :=
  PI.of (pi_range1 hg hm ha hs) fun σ H Q ⟨r, ih, env, hr, he, q⟩ => tG.imp (tG_bind hr he q) fun u H1 ⟨r1, ih1, v, p, hr1, hv, q1⟩ => by
    dsimp only at q1
    split at q1
    · obtain ⟨w, rfl, hw⟩ := hv.one
      obtain rfl : w = .int _ := hw
      split at q1
      · rename_i hj
        obtain ⟨h1, h2⟩ := smallI_of hj
        refine ⟨_, rfl, h1, h2, tG_end q1 hr1 ⟨rfl, ?_, rfl⟩⟩
        funext i H x H'
        rw [Int.mul_one]
        rfl
      · exact q1.elim
    · exact q1.elim
theorem li_rng2 (hg : Gl X "range") (hm : X.mg "range" = none) (ha : PA X [e, e2] (tMA X.K W ml)) (hs : starEach [e, e2] X.env = [(false, eval e X.env), (false, eval e2 X.env)] := by rfl) (hs2 : starEach [e2] X.env = [(false, eval e2 X.env)] := by rfl) :
    PI X tg (.Call (.Name "range" p) [e, e2] [] pos) (tMI X.K W (mi_rng2 ml)) :=
  PI.of (pi_range2 hg hm ha hs hs2) fun σ H Q ⟨r, ih, env, hr, he, q⟩ => tG.imp (tG_bind hr he q) fun u H1 ⟨r1, ih1, v, p, hr1, hv, q1⟩ => by
    dsimp only at q1
    split at q1
    · obtain ⟨w, w2, rfl, hw, hw2⟩ := hv.two
      obtain rfl : w = .int _ := hw
      obtain rfl : w2 = .int _ := hw2
      split at q1
      · rename_i hj
        obtain ⟨h1, h2⟩ := smallI_of hj.1
        obtain ⟨h3, h4⟩ := smallI_of hj.2
        refine ⟨_, _, rfl, ⟨h1, h2, h3, h4⟩, tG_end q1 hr1 ⟨rfl, ?_, rfl⟩⟩
        funext i H x H'
        rw [Int.mul_one]
        rfl
      · exact q1.elim
    · exact q1.elim
end

/-! ### for, while -/
/-- behind a loop's body: the next turn, or the end -/
def RS.loop (r : RS) (k : Env → IH → RS) : RS := match r with
  | .ok (.next env) ih => k env ih
  | .ok (.cont env) ih => k env ih
  | .ok (.brk env) ih => .ok (.next env) ih
  | .ok (.ret v) ih => .ok (.ret v) ih
  | .exc c env ih => .exc c env ih
  | .stuck => .stuck
@[simp] theorem RS.loop_next (env : Env) (ih : IH) (k : Env → IH → RS) : (RS.ok (.next env) ih).loop k = k env ih := rfl
@[simp] theorem RS.loop_cont (env : Env) (ih : IH) (k : Env → IH → RS) : (RS.ok (.cont env) ih).loop k = k env ih := rfl
@[simp] theorem RS.loop_brk (env : Env) (ih : IH) (k : Env → IH → RS) : (RS.ok (.brk env) ih).loop k = .ok (.next env) ih := rfl
@[simp] theorem RS.loop_ret (v : IV) (ih : IH) (k : Env → IH → RS) : (RS.ok (.ret v) ih).loop k = .ok (.ret v) ih := rfl
@[simp] theorem RS.loop_exc (c : Addr) (env : Env) (ih : IH) (k : Env → IH → RS) : (RS.exc c env ih).loop k = .exc c env ih := rfl
@[simp] theorem RS.loop_stuck (k : Env → IH → RS) : RS.stuck.loop k = .stuck := rfl
def forGo (s : Src) (g : IV → Env → IH → Option Env) (mb : Env → IH → RS) : Nat → Nat → Env → IH → RS
  | 0, _, _, _ => .stuck
  | f + 1, i, env, ih => match s.turn i ih with
    | .stuck => .stuck
    | .stop => .ok (.next env) ih
    | .item v ih1 => match g v env ih1 with
      | some env1 => (mb env1 ih1).loop fun env2 ih2 => forGo s g mb f (i + 1) env2 ih2
      | none => .stuck
def ms_for (mi : Env → IH → Res Src) (g : IV → Env → IH → Option Env) (mb : Env → IH → RS) (env : Env) (ih : IH) : RS := (mi env ih).stm env fun s ih1 => forGo s g mb (s.size ih1 + 1) 0 env ih1
def whileGo (n : Env → IH → Res Bool) (mb : Env → IH → RS) : Nat → Env → IH → RS
  | 0, _, _ => .stuck
  | f + 1, env, ih => (n env ih).stm env fun b ih1 => if b = true then (mb env ih1).loop fun env2 ih2 => whileGo n mb f env2 ih2 else .ok (.next env) ih1
def ms_while (fuel : Nat) (n : Env → IH → Res Bool) (mb : Env → IH → RS) (env : Env) (ih : IH) : RS := whileGo n mb fuel env ih
section
variable {X : Cx} {K : PySem.W.Frag} {W : WX} {r : List Addr} {D : Ends}
/-- a body's end within a loop -/
theorem loop_body {res : RS} {k : Env → IH → RS} {N : St → Hp → Prop} (h : PStm K W r (res.loop k) D) (hN : ∀ r1 ih env σ H, r <+: r1 → Rel K r1 ih H → REnv r1 env σ → PStm K W r1 (k env ih) D → N σ H) : PStm K W r res { D with nx := N, ct := N, bk := D.nx } := by
  cases res with
  | ok f ih =>
    cases f with
    | next env => exact fun r' H' σ' p hr he => hN r' ih env σ' H' p hr he (PStm.mono p h)
    | cont env => exact fun r' H' σ' p hr he => hN r' ih env σ' H' p hr he (PStm.mono p h)
    | brk env => exact h
    | ret v => exact h
  | exc c env ih => exact h
  | stuck => exact h
theorem ls_for {iter tg : Expr} {body : List Stmt} {ks : List Nat} {g : TG} {f : IV → Env → IH → Option Env} {mi : Env → IH → Res Src} {mb : Env → IH → RS} {pos : Pos} (hp : PassesOwn (model X.prog X.w) X.A X.env X.xe) (hc : X.calm = true) (hi : PI X tg iter (tMI X.K W mi)) (hg : PG X tg g) (sg : SndG X.K ks g f)
    (hb : PSs X body (tMS X.K W mb)) (hs : ∀ x, foldedSetIterable iter X.env x = pure x := by intro _; rfl) : PS X (.For tg iter body [] pos) (tMS X.K W (ms_for mi f mb)) :=
  PS.of (ps_for hp hc hi hg hb hs) fun D σ H ⟨r, ih, env, hr, he, q⟩ => tG.imp (tG_stm hr he q) fun J H1 ⟨r1, ih1, s, p, hr1, hj, q1⟩ => by
    dsimp only at q1
    refine ⟨fun i m σ H => ∃ r2 ih2 env2, r1 <+: r2 ∧ Rel X.K r2 ih2 H ∧ REnv r2 env2 σ ∧ PStm X.K W r2 (forGo s f mb m i env2 ih2) D, ⟨_, r1, ih1, env, pre_refl r1, hr1, he.mono p, q1⟩, fun i m σ2 H2 ⟨r2, ih2, env2, p2, hr2, he2, q2⟩ => ?_⟩
    cases m with
    | zero => exact q2.elim
    | succ m =>
      unfold forGo at q2
      have t := turn_ok (i := i) (hj.mono p2) hr2
      split at q2
      · exact q2.elim
      · rename_i e
        rw [e] at t
        exact .inl ⟨t, st_end q2 hr2 he2⟩
      · rename_i v ih3 e
        rw [e] at t
        refine .inr ⟨t.1, fun σ3 H3 => ∃ r3 ih3 env3, r1 <+: r3 ∧ Rel X.K r3 ih3 H3 ∧ REnv r3 env3 σ3 ∧ PStm X.K W r3 (forGo s f mb m (i + 1) env3 ih3) D, fun σ3 H3 h => ⟨m, Nat.lt_succ_self m, h⟩, fun x H3 hy => ?_⟩
        obtain ⟨r3, p3, hr3, hv⟩ := t.2 x H3 hy
        cases eg : f v env2 ih3 with
        | none =>
          rw [eg] at q2
          exact q2.elim
        | some env3 =>
          rw [eg] at q2
          refine sg r3 ih3 H3 v x env2 σ2 _ hr3 hv (he2.mono p3) ⟨env3, eg, fun σ3 he3 _ _ => ?_⟩
          exact ⟨r3, ih3, env3, hr3, he3, loop_body (PStm.mono p3 q2) fun r4 ih4 env4 σ4 H4 p4 hr4 he4 q4 => ⟨r4, ih4, env4, pre_trans (pre_trans p2 p3) p4, hr4, he4, q4⟩⟩
theorem ls_while {c : Expr} {body : List Stmt} {n : Env → IH → Res Bool} {mb : Env → IH → RS} {pos : Pos} (fuel : Nat) (hp : PassesOwn (model X.prog X.w) X.A X.env X.xe) (hc : PT X c (tMT X.K W n)) (hb : PSs X body (tMS X.K W mb)) : PS X (.While c body [] pos) (tMS X.K W (ms_while fuel n mb)) :=
  PS.of (ps_while hp hc hb) fun D σ H ⟨r, ih, env, hr, he, q⟩ => by
    refine ⟨fun m σ H => ∃ r2 ih2 env2, Rel X.K r2 ih2 H ∧ REnv r2 env2 σ ∧ PStm X.K W r2 (whileGo n mb m env2 ih2) D, ⟨fuel, r, ih, env, hr, he, q⟩, fun m σ2 H2 ⟨r2, ih2, env2, hr2, he2, q2⟩ => ?_⟩
    cases m with
    | zero => exact q2.elim
    | succ m =>
      unfold whileGo at q2
      refine tG.imp (tG_stm hr2 he2 q2) fun u H3 ⟨r3, ih3, b, p3, hr3, hb3, q3⟩ => ?_
      obtain rfl : u = b := hb3
      cases u with
      | true =>
        rw [if_pos rfl] at q3
        show if true = true then _ else _
        rw [if_pos rfl]
        exact ⟨fun σ4 H4 => ∃ r4 ih4 env4, Rel X.K r4 ih4 H4 ∧ REnv r4 env4 σ4 ∧ PStm X.K W r4 (whileGo n mb m env4 ih4) D, fun σ4 H4 h => ⟨m, Nat.lt_succ_self m, h⟩,
          ⟨r3, ih3, env2, hr3, he2.mono p3, loop_body q3 fun r4 ih4 env4 σ4 H4 p4 hr4 he4 q4 => ⟨r4, ih4, env4, hr4, he4, q4⟩⟩⟩
      | false =>
        rw [if_neg Bool.false_ne_true] at q3
        show if false = true then _ else _
        rw [if_neg Bool.false_ne_true]
        exact st_end q3 hr3 (he2.mono p3)
end

/-! ### comprehensions -/
def lcGo (s : Src) (g : IV → Env → IH → Option Env) (n : Env → IH → Res Bool) (me : Env → IH → Res IV) (d : Nat) (env : Env) : Nat → Nat → IH → Res IV
  | 0, _, _ => .stuck
  | f + 1, i, ih => match s.turn i ih with
    | .stuck => .stuck
    | .stop => .ok (.ref d) ih
    | .item v ih1 => match g v env ih1 with
      | some env1 => match n env1 ih1 with
        | .ok true ih2 => match me env1 ih2 with
          | .ok y ih3 => match ih3[d]? with
            | some (.lst acc) => if acc.length < 100000 then lcGo s g n me d env f (i + 1) (ih3.set d (.lst (acc ++ [y]))) else .stuck
            | _ => .stuck
          | _ => .stuck
        | .ok false ih2 => lcGo s g n me d env f (i + 1) ih2
        | _ => .stuck
      | none => .stuck
def m_lc (vs : List Nat) (mi : Env → IH → Res Src) (g : IV → Env → IH → Option Env) (n : Env → IH → Res Bool) (me : Env → IH → Res IV) (env : Env) (ih : IH) : Res IV := (mi env ih).bind fun s ih1 => lcGo s g n me ih1.length (wipeI env vs) (s.size ih1 + 1) 0 (ih1 ++ [.lst []])
def n_yes (_ : Env) (ih : IH) : Res Bool := .ok true ih
abbrev W0 : WX := fun _ _ _ _ => False
theorem wipe_get {σ : St} : ∀ {vs : List Nat} {j : Nat}, j ∈ vs → j < σ.length → (wipe σ vs)[j]? = some none
  | v :: vs, j, h, hl => by
    unfold wipe
    by_cases e : v = j
    · rw [e, List.getElem?_set_self (by rw [wipe_length]; exact hl)]
    · rw [List.getElem?_set_ne e]
      exact wipe_get ((List.mem_cons.mp h).resolve_left fun z => e z.symm) hl
theorem wipe_agree {σ σ' : St} {vs ks : List Nat} (hk : ∀ k ∈ ks, k ∈ vs) (hl : σ'.length = (wipe σ vs).length) (h : ∀ j, j ∉ ks → σ'[j]? = (wipe σ vs)[j]?) : wipe σ' vs = wipe σ vs := by
  apply List.ext_getElem?
  intro j
  by_cases hj : j ∈ vs
  · by_cases hb : j < σ.length
    · rw [wipe_get hj hb, wipe_get hj (by rw [hl, wipe_length]; exact hb)]
    · rw [List.getElem?_eq_none (by rw [wipe_length, hl, wipe_length]; omega), List.getElem?_eq_none (by rw [wipe_length]; omega)]
  · rw [wipe_out hj, h j fun z => hj (hk j z)]
section
variable {X : Cx} {W : WX} {K : PySem.W.Frag}
theorem lc_weak {ks vs : List Nat} {g : TG} {f : IV → Env → IH → Option Env} {mi : Env → IH → Res Src} {n : Env → IH → Res Bool} {me : Env → IH → Res IV} {σ : St} {H : Hp} {Q : VK} (sg : SndG K ks g f) (hk : ∀ k ∈ ks, k ∈ vs) (h : tM K W (m_lc vs mi f n me) σ H Q) :
    tLc (tMI K W mi) g (tMT K W0 n) (tM K W0 me) vs σ H Q := by
  obtain ⟨r, ih, env, hr, he, q⟩ := h
  refine tG.imp (tG_bind hr he q) fun J H1 ⟨r1, ih1, s, p, hr1, hj, q1⟩ D hD => ?_
  dsimp only at q1
  have hr1' : Rel K (r1 ++ [D]) (ih1 ++ [.lst []]) (upd H1 D (.lst [])) := hr1.new hD rfl fun H' e => ⟨[], e, .nil⟩
  have hd : (r1 ++ [D])[ih1.length]? = some D := by
    obtain ⟨a, e, z⟩ := R.newest (p := D) hr1.len
    cases z
    exact e
  have hw := (he.mono (pre_trans p (pre_one (p := D)))).wipe vs
  refine ⟨fun i m H => ∃ r2 ih2, r1 ++ [D] <+: r2 ∧ Rel K r2 ih2 H ∧ PGen R K W σ r2 (lcGo s f n me ih1.length (wipeI env vs) m i ih2) Q, ⟨_, r1 ++ [D], _, pre_refl _, hr1', PGen.mono pre_one q1⟩, fun i m H2 ⟨r2, ih2, p2, hr2, q2⟩ => ?_⟩
  cases m with
  | zero => exact q2.elim
  | succ m =>
    unfold lcGo at q2
    have t := turn_ok (i := i) (hj.mono (pre_trans pre_one p2)) hr2
    split at q2
    · exact q2.elim
    · rename_i e
      rw [e] at t
      exact .inl ⟨t, tG_end q2 hr2 ⟨D, pre_get p2 hd, rfl⟩⟩
    · rename_i v ih3 e
      rw [e] at t
      refine .inr ⟨t.1, fun H3 => ∃ r3 ih3, r1 ++ [D] <+: r3 ∧ Rel K r3 ih3 H3 ∧ PGen R K W σ r3 (lcGo s f n me ih1.length (wipeI env vs) m (i + 1) ih3) Q, fun H3 h => ⟨m, Nat.lt_succ_self m, h⟩, fun x H3 hy => ?_⟩
      obtain ⟨r3, p3, hr3, hv⟩ := t.2 x H3 hy
      cases eg : f v (wipeI env vs) ih3 with
      | none =>
        rw [eg] at q2
        exact q2.elim
      | some env3 =>
        rw [eg] at q2
        refine sg r3 ih3 H3 v x (wipeI env vs) (wipe σ vs) _ hr3 hv (hw.mono (pre_trans p2 p3)) ⟨env3, eg, fun σ3 he3 l3 k3 => ⟨wipe_agree hk l3 k3, r3, ih3, env3, hr3, he3, ?_⟩⟩
        dsimp only at q2
        cases en : n env3 ih3 with
        | stuck => rw [en] at q2; exact q2.elim
        | exc c ih4 => rw [en] at q2; exact q2.elim
        | ok b ih4 =>
          rw [en] at q2
          intro r4 H4 b' p4 hr4 hb
          obtain rfl : b' = b := hb
          cases b' with
          | false => exact ⟨r4, ih4, pre_trans (pre_trans p2 p3) p4, hr4, PGen.mono (pre_trans p3 p4) q2⟩
          | true =>
            show if true = true then _ else _
            rw [if_pos rfl]
            refine ⟨r4, ih4, env3, hr4, he3.mono p4, ?_⟩
            dsimp only at q2
            cases em : me env3 ih4 with
            | stuck => rw [em] at q2; exact q2.elim
            | exc c ih5 => rw [em] at q2; exact q2.elim
            | ok y ih5 =>
              rw [em] at q2
              intro r5 H5 u p5 hr5 hu
              dsimp only at q2
              split at q2
              · rename_i acc ea
                split at q2
                · rename_i hl
                  have hD5 := pre_get (pre_trans (pre_trans (pre_trans p2 p3) p4) p5) hd
                  obtain ⟨ys, h1, h2⟩ := hr5.get _ D _ hD5 ea
                  exact ⟨ys, h1, by rw [← h2.length]; exact line5l hl, r5, _, pre_trans (pre_trans (pre_trans p2 p3) p4) p5, hr5.write hD5 ea (h2.append (.cons hu .nil)), PGen.mono (pre_trans (pre_trans p3 p4) p5) q2⟩
                · exact q2.elim
              · exact q2.elim
theorem lts_nil : PTs X [] (tMT X.K W n_yes) := ⟨fun pins s σ H Q I ⟨r, ih, env, hr, he, q⟩ => pts_nil.run pins s σ H Q I (tG_end q hr rfl)⟩
theorem lts_one {c : Expr} {n : Env → IH → Res Bool} (h : PT X c (tMT X.K W n)) : PTs X [c] (tMT X.K W n) := pts_one h
theorem lm_lc {elt tg iter : Expr} {ifs : List Expr} {scope : Scope} {own : List (Str × Nat)} {pos : Pos} {ks : List Nat} {g : TG} {f : IV → Env → IH → Option Env} {mi : Env → IH → Res Src} {n : Env → IH → Res Bool} {me : Env → IH → Res IV} (hc : X.calm = true) (hN : X.N.Nodup) (hi : PI X tg iter (tMI X.K W mi))
    (ok : BlkOk X.N X.env.scope scope own) (sg : SndG X.K ks g f) (hk : ∀ k ∈ ks, k ∈ own.map (·.2))
    (hg : ∀ (s : Shared) (H : Hp) (C : Addr) (cl : List (Str × Addr)) (fp : List Addr), PG (X.blk s H scope (compEnvC scope cl C X.env) fp) tg g) (ht : ∀ (s : Shared) (H : Hp) (C : Addr) (cl : List (Str × Addr)) (fp : List Addr), PTs (X.blk s H scope (compEnvC scope cl C X.env) fp) ifs (tMT X.K W0 n))
    (he : ∀ (s : Shared) (H : Hp) (C : Addr) (cl : List (Str × Addr)) (fp : List Addr), PE (X.blk s H scope (compEnvC scope cl C X.env) fp) elt (tM X.K W0 me)) (hs : ∀ x, foldedSetIterable iter X.env x = pure x := by intro _; rfl) :
    PE X (.ListComp elt [⟨tg, iter, ifs, 0⟩] scope pos) (tM X.K W (m_lc (own.map (·.2)) mi f n me)) := PE.of (pe_lc hc hN hi ok hg ht he hs) fun σ H Q h => lc_weak sg hk h
/-- name = [..] on one line, the name a local -/
theorem ls_lc {i : Nat} {y : Str} {py spos : Pos} {elt tg iter : Expr} {ifs : List Expr} {scope : Scope} {own : List (Str × Nat)} {pos : Pos} {ks : List Nat} {g : TG} {f : IV → Env → IH → Option Env} {mi : Env → IH → Res Src} {n : Env → IH → Res Bool} {me : Env → IH → Res IV} (hc : X.calm = true) (hN : X.N.Nodup) (hy : X.N[i]? = some y)
    (hyl : X.env.scope.names.lookup y = some .local) (hsw : swapsWith (.ListComp elt [⟨tg, iter, ifs, 0⟩] scope pos) (some (.Name y py)) spos.line X.env = pure true) (hi : PI X tg iter (tMI X.K W mi))
    (ok : BlkOk X.N X.env.scope scope own) (sg : SndG X.K ks g f) (hk : ∀ k ∈ ks, k ∈ own.map (·.2))
    (hg : ∀ (s : Shared) (H : Hp) (C : Addr) (cl : List (Str × Addr)) (fp : List Addr), PG (X.blk s H scope (compEnvC scope cl C X.env) fp) tg g) (ht : ∀ (s : Shared) (H : Hp) (C : Addr) (cl : List (Str × Addr)) (fp : List Addr), PTs (X.blk s H scope (compEnvC scope cl C X.env) fp) ifs (tMT X.K W0 n))
    (he : ∀ (s : Shared) (H : Hp) (C : Addr) (cl : List (Str × Addr)) (fp : List Addr), PE (X.blk s H scope (compEnvC scope cl C X.env) fp) elt (tM X.K W0 me)) (hs : ∀ x, foldedSetIterable iter X.env x = pure x := by intro _; rfl) :
    PS X (.Assign [.Name y py] (.ListComp elt [⟨tg, iter, ifs, 0⟩] scope pos) spos) (tMS X.K W (ms_set (g_nm i) (m_lc (own.map (·.2)) mi f n me))) := PS.of (ps_setLc hc hN hy hyl hsw hi ok hg ht he hs) fun D σ H h => lc_weak sg hk (set_core (sg_nm i) h)
end
end L3
/-! L3g: defs, their calls, try, the law's end. -/
namespace L3
variable [TabT] [LamT]
open PySem PySem.Spec PyProof.Rows L2

/-- a def's promise: it does what its mirror m does -/
def spM (K : PySem.W.Frag) (n : Nat) (m : List IV → IH → Res IV) : Sp := fun vs H Q E => ∃ r ih args, args.length = n ∧ Rel K r ih H ∧ Rs r args vs ∧ PGen R K (fun cls d _ H => E cls d H) [] r (m args ih) Q
/-- a def of the text: x its name, dvs its defaults, n the number of its parameters -/
structure Df (P : Program) (w : World) (K : PySem.W.Frag) (mg : Str → Option Value) (base : Heap) (k : Nat) (x : Str) (n : Nat) (dvs : List IV) (m : List IV → IH → Res IV) : Prop where
  flat : ∀ d ∈ dvs, ∀ i, d ≠ .ref i
  ex : ∃ (f : Addr) (fd : FuncData) (ps : List Str), ps.length = n ∧ mg x = some (.ref f) ∧ PySem.W.keepIn K (.ref f) = true ∧ FnOk P w K mg base (L2.CX P w) k f fd ps (spM K n m) ∧ ∀ j, j ≤ dvs.length → ∃ ds, Vals ((dvs.drop j).map IV.toV) ds ∧ Binds K fd ps ds
/-- the call with the defaults behind the first j filled up -/
def f_call (n : Nat) (ds : List IV) (m : List IV → IH → Res IV) (xs : List IV) (ih : IH) : Res IV := if (xs ++ ds).length = n then m (xs ++ ds) ih else .stuck
section
variable {X : Cx} {W : WX} {k n j : Nat} {x : Str} {dvs : List IV} {m : List IV → IH → Res IV} {a : Expr} {es : List Expr} {p pos : Pos} {ma : Env → IH → Res (List IV)}
theorem run_fnD {CX : CXT} {f : Addr} {fd : FuncData} {ps : List Str} {sp : Sp} {pins : List (Addr × Obj)} {σ : L2.St} {H : Hp} {s : Shared} {Q : VK} {us : List Value} {vs dv : List V} {ds : List Value} {E : L2.St → XK} (F : FnOk X.prog X.w X.K X.mg X.base CX k f fd ps sp) (hr : Room k X.A) (hb : Binds X.K fd ps ds) (hd : Vals dv ds)
    (hx : PassesAt CX X σ (E σ)) (I : L2.Inv X pins σ H s) (r : Vals vs us) (h : sp (vs ++ dv) H Q (E σ)) : wpAny (model X.prog X.w) X.A (call (.ref f) us) (EP X pins σ Q) X.xe s := by
  have r2 : Vals (vs ++ dv) (us ++ ds) := r.append hd
  have hl : (us ++ ds).length = ps.length := by rw [← r2.length]; exact F.len _ _ _ _ h
  refine wpAny_call (codeAny_mono (F.run X.A X.stack s H ⟨us, []⟩ (us ++ ds) (vs ++ dv) Q (E σ) hr I.env0 (hb s us I.kIn hl) r2 h) fun r s' hq => ?_)
  cases r with
  | error e => exact hx pins H s e s' I hq
  | ok fl =>
    cases fl with
    | ret u => exact I.after hq
    | next => exact False.elim hq
    | brk => exact False.elim hq
    | cont => exact False.elim hq
theorem pe_callD {CX : CXT} {f : Addr} {fd : FuncData} {ps : List Str} {sp : Sp} {dv : List V} {ds : List Value} {E : L2.St → XK} {t : TA} (F : FnOk X.prog X.w X.K X.mg X.base CX k f fd ps sp) (hr : Room k X.A) (hg : Gl X x) (hm : X.mg x = some (.ref f)) (hk : PySem.W.keepIn X.K (.ref f) = true) (hb : Binds X.K fd ps ds) (hd : Vals dv ds) (hx : ∀ σ, PassesAt CX X σ (E σ))
    (ha : PA X (a :: es) t) (hdb : (x == ("__debug__" : Str)) = false := by decide) (he : starEach (a :: es) X.env = (false, eval a X.env) :: starEach es X.env := by rfl) (hpl : (backTo pos (starEach es X.env)).any (·.1) = false := by rfl) :
    PE X (.Call (.Name x p) (a :: es) [] pos) (fun σ H Q => t σ H fun vs H1 => sp (vs ++ dv) H1 Q (E σ)) := by
  refine ⟨fun pins s σ H Q I h => ?_⟩
  refine wpAny_Call_Name_kw (ld_glob I hg hm ?_ hdb)
  refine PySem.W.callWith_K (h₀ := X.base) I.ok.mod.kin hk (thn (ha.run pos pins s σ H _ I h) fun us s1 ⟨vs, H1, I1, r, q⟩ => ⟨I1.kIn, ?_⟩) he hpl
  exact run_fnD F hr hb hd (hx σ) I1 r q
theorem Rs.toV {r : List Addr} : ∀ {ds : List IV}, (∀ d ∈ ds, ∀ i, d ≠ .ref i) → Rs r ds (ds.map IV.toV)
  | [], _ => .nil
  | d :: ds, h => .cons (by
      have := h d List.mem_cons_self
      cases d with
      | ref i => exact absurd rfl (this i)
      | _ => rfl) (Rs.toV fun e he => h e (List.mem_cons_of_mem _ he))
theorem lm_call (D : Df X.prog X.w X.K X.mg X.base k x n dvs m) (j : Nat) (hj : j ≤ dvs.length) (hr : Room k X.A) (hg : Gl X x) (tk : Takes X W) (ha : PA X (a :: es) (tMA X.K W ma)) (hdb : (x == ("__debug__" : Str)) = false := by decide)
    (he : starEach (a :: es) X.env = (false, eval a X.env) :: starEach es X.env := by rfl) (hpl : (backTo pos (starEach es X.env)).any (·.1) = false := by rfl) : PE X (.Call (.Name x p) (a :: es) [] pos) (tM X.K W (m_app (f_call n (dvs.drop j) m) ma)) := by
  obtain ⟨f, fd, ps, hn, hm, hk, F, hB⟩ := D.ex
  obtain ⟨ds, hd, hb⟩ := hB j hj
  refine PE.of (pe_callD F hr hg hm hk hb hd (fun σ => passAt tk σ) ha hdb he hpl) fun σ H Q ⟨r, ih, env, hr, he, q⟩ => tG.imp (tG_bind hr he q) fun u H1 ⟨r1, ih1, v, p, hr1, hv, q1⟩ => ?_
  dsimp only at q1
  unfold f_call at q1
  split at q1
  · rename_i hl
    refine ⟨r1, ih1, v ++ dvs.drop j, hl, hr1, hv.append (Rs.toV fun d hd => D.flat d (List.mem_of_mem_drop hd)), ?_⟩
    cases e : m (v ++ dvs.drop j) ih1 with
    | ok y ih2 => rw [e] at q1; exact q1
    | exc c ih2 => rw [e] at q1; exact q1
    | stuck => rw [e] at q1; exact q1
  · exact q1.elim
end

/-- a def's run by its body's mirror -/
def startI (N : Nat) (args : List IV) : Env := args.map some ++ List.replicate (N - args.length) none
def RS.out (r : RS) : Res IV := match r with
  | .ok (.ret v) ih => .ok v ih
  | .ok (.next _) ih => .ok .non ih
  | .ok (.brk _) _ => .stuck
  | .ok (.cont _) _ => .stuck
  | .exc c _ ih => .exc c ih
  | .stuck => .stuck
@[simp] theorem RS.out_ret (v : IV) (ih : IH) : (RS.ok (.ret v) ih).out = .ok v ih := rfl
@[simp] theorem RS.out_next (v : Env) (ih : IH) : (RS.ok (.next v) ih).out = .ok .non ih := rfl
@[simp] theorem RS.out_exc (c : Addr) (v : Env) (ih : IH) : (RS.exc c v ih).out = .exc c ih := rfl
def defRun (N : Nat) (mb : Env → IH → RS) (args : List IV) (ih : IH) : Res IV := (mb (startI N args) ih).out
theorem start_rel {r : List Addr} {args : List IV} {vs : List V} {N : List Str} (h : Rs r args vs) : REnv r (startI N.length args) (L2.start N vs) := by
  unfold startI L2.start
  refine ⟨by rw [List.length_append, List.length_append, List.length_map, List.length_map, List.length_replicate, List.length_replicate, h.length], fun i v e => ?_⟩
  by_cases hi : i < args.length
  · rw [List.getElem?_append_left (by simpa using hi), List.getElem?_map] at e
    obtain ⟨w, e1, e2⟩ := Option.map_eq_some_iff.mp e
    cases e2
    obtain ⟨u, h1, h2⟩ := h.get e1
    exact ⟨u, by rw [List.getElem?_append_left (by rw [List.length_map, ← h.length]; exact hi), List.getElem?_map, h1]; rfl, h2⟩
  · rw [List.getElem?_append_right (by simpa using hi), List.getElem?_replicate] at e
    split at e <;> cases e
section
variable {P : Program} {w : World} {K : PySem.W.Frag} {mg : Str → Option Value} {base : Heap} {k : Nat} {x qual : Str} {st : Stmt} {dv : List V} {f : Addr} {fd : FuncData} {N ps : List Str} {mb : Env → IH → RS}
theorem df_fn (F : FunD K x qual (defArgs st) (defBody st) (defScope st) dv [] f fd) (S : FnScope N ps (defScope st))
    (hbody : ∀ (cdv : Value) (A : Around) (outer : List PySem.Env) (s : Shared) (H : Hp) (E : XK), Room k (A.deeper (envOfC qual (defScope st) s.heap.objs.size f cdv)) →
      PSs (cxOf (L2.CX P w) P w K mg base N qual (defScope st) f cdv A outer s H E) (defBody st) (tMS K (fun cls d _ H => E cls d H) mb)) :
    FnOk P w K mg base (L2.CX P w) (k + 1) f fd ps (spM K ps.length (defRun N.length mb)) := by
  refine F.ok S (fun vs H Q E ⟨r, ih, args, e, _, rs, _⟩ => rs.length ▸ e) fun cdv A outer s H vs Q E hr ⟨r, ih, args, e, hrel, rs, q⟩ => ⟨_, hbody cdv A outer s H E hr, r, ih, _, hrel, start_rel rs, ?_⟩
  unfold defRun at q
  cases z : mb (startI N.length args) ih with
  | ok fl ih2 =>
    rw [z] at q
    cases fl with
    | ret v => exact q
    | next env => exact fun r' H' σ' p hr' he' => q r' H' .non p hr' rfl
    | brk env => exact q.elim
    | cont env => exact q.elim
  | exc c env ih2 =>
    rw [z] at q
    exact fun r' H' σ' p hr' he' => q r' H' p hr'
  | stuck => rw [z] at q; exact q
/-- a def without defaults -/
theorem df_mk0 (F : FunD K x qual (defArgs st) (defBody st) (defScope st) [] [] f fd) (S : FnScope N ps (defScope st)) (hm : mg x = some (.ref f))
    (h : ∀ (kV doc pm : Value) (an : Option Addr) (cdv ct : Value) (us : List Value), us.length = ps.length → bindArgs (PySem.W.fnOf x qual (defArgs st) (defBody st) (defScope st) .none kV doc pm an cdv ct) ⟨us, []⟩ = pure (ps.zip us))
    (hbody : ∀ (cdv : Value) (A : Around) (outer : List PySem.Env) (s : Shared) (H : Hp) (E : XK), Room k (A.deeper (envOfC qual (defScope st) s.heap.objs.size f cdv)) →
      PSs (cxOf (L2.CX P w) P w K mg base N qual (defScope st) f cdv A outer s H E) (defBody st) (tMS K (fun cls d _ H => E cls d H) mb)) :
    Df P w K mg base (k + 1) x ps.length [] (defRun N.length mb) :=
  ⟨fun _ h => (nomatch h), f, fd, ps, rfl, hm, F.kp, df_fn F S hbody, fun j _ => ⟨[], by rw [List.drop_nil]; exact .nil, F.bindsN h⟩⟩
end

/-! ### try -/
/-- behind an except suite: its name goes -/
def RS.unset (r : RS) (i : Nat) : RS := match r with
  | .ok (.next env) ih => .ok (.next (env.set i none)) ih
  | .ok (.brk env) ih => .ok (.brk (env.set i none)) ih
  | .ok (.cont env) ih => .ok (.cont (env.set i none)) ih
  | .ok (.ret v) ih => .ok (.ret v) ih
  | .exc _ _ _ => .stuck
  | .stuck => .stuck
open Classical in
noncomputable def ms_try (i : Nat) (exm : Addr → Option Bool) (mb : Env → IH → RS) (ms : Addr → Addr → Env → IH → RS) (env : Env) (ih : IH) : RS := match mb env ih with
  | .exc c env1 ih1 => match exm c with
    | some true => if ∀ a, (ms a c (env1.set i (some (.gl a))) ih1).unset i = (ms 0 c (env1.set i (some (.gl 0))) ih1).unset i then (ms 0 c (env1.set i (some (.gl 0))) ih1).unset i else .stuck
    | some false => .exc c env1 ih1
    | none => .stuck
  | z => z
section
variable {X : Cx} {W : WX} {mb : Env → IH → RS} {ms : Addr → Addr → Env → IH → RS} {x n : Str} {c : Value} {i : Nat} {body suite : List Stmt} {b₀ : Stmt} {np pos pos' : Pos}
theorem ls_try (hs : X.stack = X.env :: X.outer) (hf : X.env.frame = some X.env.locals) (hN : X.N.Nodup) (hi : X.N[i]? = some n) (hln : X.env.kindOf n = some .local) (hc : Names X x c) (tk : Takes X W)
    (hb : ∀ (W : WX) (pn : List (Addr × Obj)) (xe : Value → Shared → Prop), Takes (X.tr pn xe) W → PassesOwn (model X.prog X.w) X.A X.env xe → PSs (X.tr pn xe) body (tMS X.K W mb))
    (hsu : ∀ (a cl : Addr) (oe : Obj) (pn : List (Addr × Obj)), Zc (.ref cl) none oe → (∃ vs, oe.data = .fields vs) → PSs (X.suite a ((a, oe) :: pn)) (b₀ :: suite) (tMS X.K W0 (ms a cl))) :
    PS X (.Try body [.ExceptHandler (some (.Name x np)) (some n) (b₀ :: suite) pos'] [] [] pos) (tMS X.K W (ms_try i (fun cl => PySem.W.exmOne X.K (.ref cl) c) mb ms)) := by
  refine PS.of (ps_try_as (tb := fun W => tMS X.K W mb) (ts := fun a cls d D σ H => ∃ cl, cls = .ref cl ∧ d = none ∧ tMS X.K W0 (ms a cl) D σ H) hs hf hN hi hln hc tk hb fun a oe cls d pn hz hd => ⟨fun pins s σ H D I ⟨cl, e1, e2, h⟩ => ?_⟩) fun D σ H ⟨r, ih, env, hr, he, q⟩ => ?_
  · subst e1
    subst e2
    exact (hsu a cl oe pn hz hd).run pins s σ H D I h
  · refine ⟨r, ih, env, hr, he, ?_⟩
    unfold ms_try at q
    cases e : mb env ih with
    | ok f ih1 =>
      rw [e] at q
      cases f with
      | next _ => exact q
      | brk _ => exact q
      | cont _ => exact q
      | ret _ => exact q
    | stuck => rw [e] at q; exact q
    | exc cl env1 ih1 =>
      rw [e] at q
      intro r1 H1 σ1 p1 hr1 he1
      dsimp only at q
      cases z : PySem.W.exmOne X.K (.ref cl) c with
      | none => rw [z] at q; exact q.elim
      | some b =>
        rw [z] at q
        refine ⟨b, z, fun hb1 a ha => ?_, fun hb0 => ?_⟩
        · subst hb1
          dsimp only at q
          split at q
          · rename_i hall
            rw [← hall a] at q
            refine ⟨cl, rfl, rfl, r1, ih1, env1.set i (some (.gl a)), hr1, he1.set (x := IV.gl a) (y := V.ref a) rfl i, ?_⟩
            cases z2 : ms a cl (env1.set i (some (.gl a))) ih1 with
            | ok f ih2 =>
              rw [z2] at q
              cases f with
              | next env2 => exact fun r2 H2 σ2 p2 hr2 he2 => q r2 H2 _ (pre_trans p1 p2) hr2 (he2.setN i)
              | brk env2 => exact fun r2 H2 σ2 p2 hr2 he2 => q r2 H2 _ (pre_trans p1 p2) hr2 (he2.setN i)
              | cont env2 => exact fun r2 H2 σ2 p2 hr2 he2 => q r2 H2 _ (pre_trans p1 p2) hr2 (he2.setN i)
              | ret v => exact fun r2 H2 u p2 hr2 hv => q r2 H2 u (pre_trans p1 p2) hr2 hv
            | exc c2 env2 ih2 => rw [z2] at q; exact q.elim
            | stuck => rw [z2] at q; exact q.elim
          · exact q.elim
        · subst hb0
          exact q r1 H1 σ1 p1 hr1 he1
end
/-- isinstance of the exception that the suite holds -/
def clsOf : IV → Option Value
  | .gl C => some (.ref C)
  | .ty T => some (.type T)
  | _ => none
open Classical in
noncomputable def f_isE (K : PySem.W.Frag) (a c : Addr) (xs : List IV) (ih : IH) : Res IV := match xs with
  | [.gl b, y] => if b = a ∧ ExcC K c then (match clsOf y with
    | some cv => match PySem.W.kitOne K (.ref c) cv with
      | some k => .ok (.bl k) ih
      | none => .stuck
    | none => .stuck) else .stuck
  | _ => .stuck
section
variable {X : Cx} {K : PySem.W.Frag} {W : WX} {a c : Addr} {oe : Obj} {pn : List (Addr × Obj)}
theorem call_isEA (hz : Zc (.ref c) none oe) (hf : ∃ vs, oe.data = .fields vs) : CallR (X.suite a ((a, oe) :: pn)) (.builtin "isinstance") (fun xs H Q => ExcC X.K c ∧ rIsE X.K c a xs H Q) :=
  fun pins s σ H xs us Q I r ⟨h1, h2⟩ => call_isE h1 hz hf pins s σ H xs us Q I r h2
theorem s_isE : SndC K W (fun xs H Q => ExcC K c ∧ rIsE K c a xs H Q) (f_isE K a c) := by
  intro r ih H xs us σ Q hr hx q
  unfold f_isE at q
  split at q
  · obtain ⟨u, v, rfl, h1, h2⟩ := hx.two
    split at q
    · rename_i hb
      split at q
      · rename_i cv e1
        split at q
        · rename_i k e2
          obtain rfl : u = .ref _ := h1
          refine ⟨hb.2, v, cv, k, by rw [hb.1], fun w hw => ?_, e2, tG_end q hr rfl⟩
          unfold clsOf at e1
          split at e1
          · cases e1
            obtain rfl : v = .ref _ := h2
            exact hw
          · cases e1
            obtain rfl : v = .ty _ := h2
            exact hw
          · cases e1
        · exact q.elim
      · exact q.elim
    · exact q.elim
  · exact q.elim
end

end L3
/-! L3h: the text's facts; defs, once more. -/
namespace L3
variable [TabT] [LamT]
open PySem PySem.Spec PyProof.Rows L2

/-- the program's own classes by their addresses -/
structure Cs where
  K : PySem.W.Frag
  KernelError : Addr
  NoWidth : Addr
  NoLooks : Addr
  NoCycle : Addr
  NoRate : Addr
  NoReading : Addr
  NoLine : Addr
  NoProcessor : Addr
  NoTick : Addr
  NoLevels : Addr
  NoClock : Addr
  NoSlew : Addr
  Stopped : Addr
  NotStopped : Addr
  NoSlack : Addr
  NoPeriod : Addr
  NoFragile : Addr
  NoTimer : Addr
  NoWindow : Addr
  NoSpan : Addr
  NoProcess : Addr
  NoThread : Addr
  NoQuantum : Addr
  NoKernel : Addr
  NoCall : Addr
  TooMany : Addr
  NoRow : Addr
def IV.flat : IV → Bool
  | .ref _ => false
  | _ => true
/-- an own error class of the text -/
structure ExcX (K : PySem.W.Frag) (mg : Str → Option Value) (x : Str) (C : Addr) : Prop where
  g : mg x = some (.ref C)
  q : PySem.W.excIn K C [.type "ValueError", .type "Exception", .type "BaseException", .type "object"] "ValueError.__new__" = true
  k : PySem.W.keepIn K (.ref C) = true
  b : PySem.W.subIn K (.ref C) (.type "BaseException") = some true
  t : PySem.W.typeIn K (.ref C) = some (.type "type")
theorem lg_glob {X : Cx} {x : Str} {v : V} {pos : Pos} (h : ∃ u, X.mg x = some u ∧ RelV v u) (hg : Gl X x) (hd : (x == ("__debug__" : Str)) = false := by decide) : PE X (.Name x pos) (tC v) := by
  obtain ⟨u, h1, h2⟩ := h
  exact pe_glob hg h1 h2 hd
def f_addI := f_I0 fun i j => .int (i + j)
theorem s_addI {K : PySem.W.Frag} {W : WX} : Snd2 K W (rI0 fun i j => .int (i + j)) f_addI := snd_I0 fun _ _ _ => rfl
theorem iop_mulX {X : Cx} : OpR X (inplaceOp .Mult) (rI CMulX fun i j => .int (i * j)) := opI fun _ _ _ _ _ _ _ hc q => imul_int q hc.ok
/-- a chain of two comparisons -/
def m_chain (f g : IV → IV → IH → Res IV) (ma mb mc : Env → IH → Res IV) (env : Env) (ih : IH) : Res IV := (ma env ih).bind fun x ih1 => (mb env ih1).bind fun y ih2 => (f x y ih2).bind fun z ih3 => match z with
  | .bl k => if k = true then (mc env ih3).bind fun u ih4 => g y u ih4 else .ok (.bl false) ih3
  | _ => .stuck
section
variable {P : Program} {w : World} {K : PySem.W.Frag} {mg : Str → Option Value} {base : Heap} {k : Nat} {x qual : Str} {st : Stmt} {dv : List V} {f : Addr} {fd : FuncData} {N ps : List Str} {mb : Env → IH → RS}
/-- what a body may use: its context is a def's -/
abbrev BodyOk (P : Program) (w : World) (K : PySem.W.Frag) (mg : Str → Option Value) (base : Heap) (k : Nat) (N : List Str) (qual : Str) (st : Stmt) (f : Addr) (mb : Env → IH → RS) : Prop :=
  ∀ (cdv : Value) (A : Around) (outer : List PySem.Env) (s : Shared) (H : Hp) (E : XK), Room k (cxOf (L2.CX P w) P w K mg base N qual (defScope st) f cdv A outer s H E).A →
    Takes (cxOf (L2.CX P w) P w K mg base N qual (defScope st) f cdv A outer s H E) (fun cls d _ H => E cls d H) →
    PassesOwn (model P w) (cxOf (L2.CX P w) P w K mg base N qual (defScope st) f cdv A outer s H E).A (cxOf (L2.CX P w) P w K mg base N qual (defScope st) f cdv A outer s H E).env (cxOf (L2.CX P w) P w K mg base N qual (defScope st) f cdv A outer s H E).xe →
    (cxOf (L2.CX P w) P w K mg base N qual (defScope st) f cdv A outer s H E).A.units + 64 < cLine →
    PSs (cxOf (L2.CX P w) P w K mg base N qual (defScope st) f cdv A outer s H E) (defBody st) (tMS K (fun cls d _ H => E cls d H) mb)
theorem df_fn2 (F : FunD K x qual (defArgs st) (defBody st) (defScope st) dv [] f fd) (S : FnScope N ps (defScope st)) (hbody : BodyOk P w K mg base k N qual st f mb) : FnOk P w K mg base (L2.CX P w) (k + 1) f fd ps (spM K ps.length (defRun N.length mb)) :=
  df_fn F S fun cdv A outer s H E hr => hbody cdv A outer s H E hr (takes_of rfl rfl rfl rfl) (passes_of rfl) (by
    have h := hr.un
    show (A.deeper (envOfC qual (defScope st) s.heap.objs.size f cdv)).units + 64 < cLine
    omega)
theorem df0 (F : FunD K x qual (defArgs st) (defBody st) (defScope st) [] [] f fd) (S : FnScope N ps (defScope st)) (hm : mg x = some (.ref f))
    (h : ∀ (kV doc pm : Value) (an : Option Addr) (cdv ct : Value) (us : List Value), us.length = ps.length → bindArgs (PySem.W.fnOf x qual (defArgs st) (defBody st) (defScope st) .none kV doc pm an cdv ct) ⟨us, []⟩ = pure (ps.zip us))
    (hbody : BodyOk P w K mg base k N qual st f mb) : Df P w K mg base (k + 1) x ps.length [] (defRun N.length mb) :=
  ⟨fun _ h => (nomatch h), f, fd, ps, rfl, hm, F.kp, df_fn2 F S hbody, fun j _ => ⟨[], by rw [List.drop_nil]; exact .nil, F.bindsN h⟩⟩
theorem dfD {dvs : List IV} (F : FunD K x qual (defArgs st) (defBody st) (defScope st) dv [] f fd) (S : FnScope N ps (defScope st)) (hm : mg x = some (.ref f)) (hf : dvs.all IV.flat = true) (hd : dvs.map IV.toV = dv) (hn : dvs.length = dv.length)
    (hB : ∀ j, j ≤ dv.length → ∃ ds, Vals (dv.drop j) ds ∧ Binds K fd ps ds)
    (hbody : BodyOk P w K mg base k N qual st f mb) : Df P w K mg base (k + 1) x ps.length dvs (defRun N.length mb) :=
  ⟨fun d h i e => (by
    have z := List.all_eq_true.mp hf d h
    rw [e] at z
    cases z), f, fd, ps, rfl, hm, F.kp, df_fn2 F S hbody, fun j hj => by
    rw [List.map_drop, hd]
    exact hB j (by rw [← hn]; exact hj)⟩
/-- from the facts of the head -/
theorem fun0 {oc : Value} {od an : Option Addr} {osl : Array (Option Value)} {kV doc pm cdv ct : Value} (l : K.lookup f = some ⟨oc, od, .func (PySem.W.fnOf x qual (defArgs st) (defBody st) (defScope st) .none kV doc pm an cdv ct), osl⟩)
    (c : PySem.W.codeIn K cdv qual = true) (k : PySem.W.keepIn K (.ref f) = true) : FunD K x qual (defArgs st) (defBody st) (defScope st) [] [] f (PySem.W.fnOf x qual (defArgs st) (defBody st) (defScope st) .none kV doc pm an cdv ct) :=
  ⟨⟨oc, od, .none, kV, doc, pm, an, cdv, ct, osl, rfl, l, c, .inl ⟨rfl, rfl⟩, .inl rfl⟩, k⟩
theorem funD {oc : Value} {od an : Option Addr} {osl : Array (Option Value)} {kV doc pm cdv ct : Value} {T : Addr} {o : Obj} {its : List Value} {n : Nat} (l : K.lookup f = some ⟨oc, od, .func (PySem.W.fnOf x qual (defArgs st) (defBody st) (defScope st) (.ref T) kV doc pm an cdv ct), osl⟩)
    (c : PySem.W.codeIn K cdv qual = true) (k : PySem.W.keepIn K (.ref f) = true) (lT : K.lookup T = some o) (oT : o.data = .seq its.toArray n) (hv : Vals dv its) (hd : dv ≠ []) : FunD K x qual (defArgs st) (defBody st) (defScope st) dv [] f (PySem.W.fnOf x qual (defArgs st) (defBody st) (defScope st) (.ref T) kV doc pm an cdv ct) :=
  ⟨⟨oc, od, .ref T, kV, doc, pm, an, cdv, ct, osl, rfl, l, c, .inr ⟨hd, T, o, its, n, rfl, lT, oT, hv⟩, .inl rfl⟩, k⟩
end
end L3
/-! L3i: the law's promise, from its mirror. -/
namespace L3
variable [TabT] [LamT]
open PySem PySem.Spec PyProof.Rows L2

/-- the law's promise: True of every script -/
def spLaw (K : PySem.W.Frag) : Sp := fun vs H Q _ => ∃ (a : Addr) (ns : List Int), vs = [.ref a] ∧ ns.length ≤ 63 ∧ (∀ z ∈ ns, Builtin.Int.intBits z ≤ 1048576) ∧ Only H ∧ SqL K H a (ns.map V.int) ∧ ∀ H', Q (.bl true) H'
theorem law_imp {K : PySem.W.Frag} {m : List IV → IH → Res IV} (hT : TabT.T = []) (hr0 : LamT.r0 = [] ∧ LamT.cs = [] ∧ ∀ e j, LamT.fn e j = none) (h : ∀ ns : List Int, ns.length ≤ 63 → (∀ z ∈ ns, Builtin.Int.intBits z ≤ 1048576) → ∃ ih, m [.ref 0] [.ro (ns.map IV.int)] = .ok (.bl true) ih) :
    ∀ vs H Q E, spLaw K vs H Q E → spM K 1 m vs H Q E := fun vs H Q E ⟨a, ns, e, h1, h2, hO, hS, q⟩ => by
  subst e
  obtain ⟨ih, h⟩ := h ns h1 h2
  refine ⟨[a], [.ro (ns.map IV.int)], [.ref 0], rfl, ⟨rfl, fun n b o e1 e2 => ?_, fun n k b o u e1 e2 e3 e4 s1 s2 => ?_, (by rw [hT]; exact fun p hp => nomatch hp), (by rw [hr0.1]; exact List.nil_prefix), (by rw [hr0.2.1]; exact fun p hp => nomatch hp), (fun n e j g => by
    cases n with
    | zero => cases g
    | succ n => cases g), (fun e j _ => hr0.2.2 e j)⟩, .cons ⟨a, rfl, rfl⟩ .nil, ?_⟩
  · cases n with
    | succ n => cases e1
    | zero =>
      cases e1
      cases e2
      refine ⟨ns.map V.int, ?_, Rs.flats_mk (f := IV.int) (g := V.int) (fun _ => rfl) ns⟩
      rcases hS with (z | ⟨o, z⟩) | z
      · rcases hO a with y | ⟨o, xs, y⟩
        · rw [y] at z; cases z
        · rw [y] at z; cases z
      · exact .inl ⟨o, z⟩
      · exact .inr (.inr z)
  · cases n with
    | succ n => cases e1
    | zero =>
      cases e3
      cases s1
  · rw [h]
    exact fun r' H' u p hr hv => by
      obtain rfl : u = .bl true := hv
      exact q H'
theorem cx_none {P : Program} {w : World} {H : Hp} {s : Shared} {e : Value} {s' : Shared} (h : L2.CX P w [] H s (fun _ _ _ => False) e s') : False := by
  obtain ⟨_, _, _, _, _, _, _, _, _, _, _, _, z⟩ := h
  exact z
end L3
/-! L3j: chains of two comparisons. -/
namespace L3
variable [TabT] [LamT]
open PySem L2
def mi_rng3 (m : Env → IH → Res (List IV)) (env : Env) (ih : IH) : Res Src := (m env ih).bind fun vs ih1 => match vs with
  | [.int i, .int j, .int k] => if k = -1 ∧ smallI i = true ∧ smallI j = true then .ok (.rng i (-1) (i - j).toNat) ih1 else .stuck
  | _ => .stuck
section
variable {X : Cx} {W : WX} {a b c : Expr} {ma mb mc : Env → IH → Res IV} {pos : Pos}
theorem chain_core {rr rr' : R2} {f g : IV → IV → IH → Res IV} (hf : Snd2 X.K W rr f) (hg : Snd2 X.K W rr' g) {σ : St} {H : Hp} {Q : VK} (h : tM X.K W (m_chain f g ma mb mc) σ H Q) : tChain rr rr' (tM X.K W ma) (tM X.K W mb) (tM X.K W mc) σ H Q := by
  obtain ⟨r, ih, env, hr, he, q⟩ := h
  refine tG.imp (tG_bind hr he q) fun u H1 ⟨r1, ih1, v, p, hr1, hv, q1⟩ => tG.imp (tG_bind hr1 (he.mono p) q1) fun w H2 ⟨r2, ih2, y, p2, hr2, hy, q2⟩ => hf r2 ih2 H2 v y u w σ _ hr2 (hv.mono p2) hy ?_
  dsimp only at q2
  cases e : f v y ih2 with
  | ok z ih3 =>
    rw [e] at q2
    intro r3 H3 z' p3 hr3 hz
    cases z with
    | bl k =>
      obtain rfl : z' = .bl k := hz
      refine ⟨k, rfl, ?_⟩
      cases k with
      | true =>
        rw [if_pos rfl]
        have q3 : PGen R X.K W σ r2 ((mc env ih3).bind fun u ih4 => g y u ih4) Q := q2
        exact tG.imp (tG_bind hr3 (he.mono (pre_trans p (pre_trans p2 p3))) (PGen.mono p3 q3)) fun u4 H4 ⟨r4, ih4, v4, p4, hr4, hv4, q4⟩ => hg _ _ _ _ _ _ _ _ _ hr4 (hy.mono (pre_trans p3 p4)) hv4 q4
      | false =>
        rw [if_neg (by decide)]
        have q3 : PGen R X.K W σ r2 (.ok (.bl false) ih3) Q := q2
        exact q3 r3 H3 _ p3 hr3 rfl
    | _ => exact (q2 : False).elim
  | exc c ih3 =>
    rw [e] at q2
    exact q2
  | stuck =>
    rw [e] at q2
    exact q2
theorem lm_chain {op op' : CmpOp} {rr rr' : R2} {f g : IV → IV → IH → Res IV} (ho : OpR X (compareOp op) rr) (hf : Snd2 X.K W rr f) (ho' : OpR X (compareOp op') rr') (hg : Snd2 X.K W rr' g) (ha : PE X a (tM X.K W ma)) (hb : PE X b (tM X.K W mb)) (hc : PE X c (tM X.K W mc))
    (hm : lastMarks [op, op'] [b, c] = false := by with_unfolding_all rfl) : PE X (.Compare a [op, op'] [b, c] pos) (tM X.K W (m_chain f g ma mb mc)) := PE.of (pe_chain ho ho' ha hb hc hm) fun σ H Q h => chain_core hf hg h
theorem lt_chain {op op' : CmpOp} {rr rr' : R2} {f g : IV → IV → IH → Res IV} (ho : OpR X (compareOp op) rr) (hf : Snd2 X.K W rr f) (ho' : OpR X (compareOp op') rr') (hg : Snd2 X.K W rr' g) (ha : PE X a (tM X.K W ma)) (hb : PE X b (tM X.K W mb)) (hc : PE X c (tM X.K W mc))
    (hm : lastMarks [op, op'] [b, c] = false := by with_unfolding_all rfl) : PT X (.Compare a [op, op'] [b, c] pos) (tMT X.K W (m_tb (m_chain f g ma mb mc))) := PT.of (pt_chain ho ho' ha hb hc hm) fun σ H Q h => chain_core hf hg (tb_core h)
theorem li_rng3 {tg a b d : Expr} {ml : Env → IH → Res (List IV)} {p pos : Pos} (hg : Gl X "range") (hm : X.mg "range" = none) (ha : PA X [a, b, d] (tMA X.K W ml))
    (hs : starEach [a, b, d] X.env = (false, eval a X.env) :: starEach [b, d] X.env := by rfl) (hpl : (backTo pos (starEach [b, d] X.env)).any (·.1) = false := by rfl) : PI X tg (.Call (.Name "range" p) [a, b, d] [] pos) (tMI X.K W (mi_rng3 ml)) :=
  PI.of (pi_range3 hg hm ha hs hpl) fun σ H Q ⟨r, ih, env, hr, he, q⟩ => tG.imp (tG_bind hr he q) fun u H1 ⟨r1, ih1, v, p, hr1, hv, q1⟩ => by
    dsimp only at q1
    split at q1
    · rename_i i j k
      cases hv with
      | cons v1 t1 =>
        cases t1 with
        | cons v2 t2 =>
          cases t2 with
          | cons v3 t3 =>
            cases t3
            obtain rfl := (show _ = V.int i from v1)
            obtain rfl := (show _ = V.int j from v2)
            obtain rfl := (show _ = V.int k from v3)
            split at q1
            · rename_i hj
              obtain ⟨rfl, hi, hj⟩ := hj
              obtain ⟨h1, h2⟩ := smallI_of hi
              obtain ⟨h3, h4⟩ := smallI_of hj
              exact ⟨i, j, -1, _, rfl, RgC.neg h1 h2 h3 h4, tG_end q1 hr1 ⟨rfl, rfl, rfl⟩⟩
            · exact q1.elim
    · exact q1.elim
end
end L3
/-! L3k: sorted. -/
namespace L3
variable [TabT] [LamT]
open PySem L2
/-- y put in behind all that it is not before -/
def insB {α : Type} (lt : α → α → Bool) (y : α) : List α → List α
  | [] => [y]
  | x :: l => if lt y x = true then y :: x :: l else x :: insB lt y l
def isB {α : Type} (lt : α → α → Bool) : List α → List α → List α
  | acc, [] => acc
  | acc, y :: r => isB lt (insB lt y acc) r
section
variable {α : Type} {lt : α → α → Bool}
theorem insB_split (O : SrtO.Swo lt) (y : α) : ∀ {l : List α}, SrtO.Srtd lt l → ∃ M N, l = M ++ N ∧ insB lt y l = M ++ y :: N ∧ (∀ x ∈ M, lt y x = false) ∧ ∀ x ∈ N, lt y x = true
  | [], _ => ⟨[], [], rfl, rfl, (fun _ h => nomatch h), fun _ h => nomatch h⟩
  | x :: l, h => by
    unfold insB
    split
    · rename_i hx
      exact ⟨[], x :: l, rfl, rfl, (fun _ h => nomatch h), O.lt_all h hx⟩
    · rename_i hx
      obtain ⟨M, N, e1, e2, h1, h2⟩ := insB_split O y (List.pairwise_cons.mp h).2
      refine ⟨x :: M, N, by rw [e1]; rfl, by rw [e2]; rfl, fun z hz => ?_, h2⟩
      rcases List.mem_cons.mp hz with e | e
      · rw [e]
        cases hh : lt y x with
        | true => exact absurd hh hx
        | false => rfl
      · exact h1 z e
theorem isB_spec (O : SrtO.Swo lt) : ∀ (r acc pre : List α), SrtO.Srtd lt acc → SrtO.Stb lt acc pre → SrtO.Srtd lt (isB lt acc r) ∧ SrtO.Stb lt (isB lt acc r) (pre ++ r)
  | [], acc, pre, h, s => ⟨h, by rw [List.append_nil]; exact s⟩
  | y :: r, acc, pre, h, s => by
    obtain ⟨M, N, e1, e2, h1, h2⟩ := insB_split O y h
    subst e1
    have k := isB_spec O r (insB lt y (M ++ N)) (pre ++ [y]) (by rw [e2]; exact SrtO.ins_srtd O h h1 h2) (by rw [e2]; exact SrtO.ins_stb O h2 s)
    rw [List.append_assoc] at k
    exact k
theorem isB_all (O : SrtO.Swo lt) (l : List α) : SrtO.Srtd lt (isB lt [] l) ∧ SrtO.Stb lt (isB lt [] l) l := isB_spec O l [] [] List.Pairwise.nil (SrtO.Stb.refl [])
end
theorem Stb.symm {α : Type} {lt : α → α → Bool} {l m : List α} (h : SrtO.Stb lt l m) : SrtO.Stb lt m l := ⟨h.perm.symm, fun x => (h.cls x).symm⟩
/-- the same steps on both sides -/
theorem ins_par {α β : Type} {T : α → β → Prop} {l1 : α → α → Bool} {l2 : β → β → Bool} (hT : ∀ x y u w, T x u → T y w → l1 x y = l2 u w) {y : α} {w : β} (hy : T y w) : ∀ {xs : List α} {us : List β}, Paired T xs us → Paired T (insB l1 y xs) (insB l2 w us)
  | _, _, .nil => .cons hy .nil
  | _, _, .cons (a := x) (b := u) q t => by
    unfold insB
    rw [hT y x w u hy q]
    split
    · exact .cons hy (.cons q t)
    · exact .cons q (ins_par hT hy t)
theorem is_par {α β : Type} {T : α → β → Prop} {l1 : α → α → Bool} {l2 : β → β → Bool} (hT : ∀ x y u w, T x u → T y w → l1 x y = l2 u w) : ∀ {xs : List α} {us : List β} {as : List α} {bs : List β}, Paired T as bs → Paired T xs us → Paired T (isB l1 as xs) (isB l2 bs us)
  | _, _, _, _, h, .nil => h
  | _, _, _, _, h, .cons q t => by
    unfold isB
    exact is_par hT (ins_par hT q h) t
/-! ### ints -/
def isI (ns : List Int) : List Int := isB (fun a b : Int => decide (a < b)) [] ns
theorem swoI : SrtO.Swo (fun a b : Int => decide (a < b)) := ⟨fun x y h => by
    simp only [decide_eq_true_eq, decide_eq_false_iff_not] at *
    omega, fun x y z h1 h2 => by
    simp only [decide_eq_true_eq, decide_eq_false_iff_not] at *
    omega⟩
theorem isI_perm (ns : List Int) : (isI ns).Perm ns := (isB_all swoI ns).2.perm
theorem isI_le (ns : List Int) : (isI ns).Pairwise (· ≤ ·) := ((isB_all swoI ns).1).imp fun h => by
  simp only [decide_eq_false_iff_not] at h
  omega
def f_sorted : List IV → IH → Res IV := f_ints fun ns ih => .ok (.ref ih.length) (ih ++ [.lst ((isI ns).map IV.int)])
theorem Rs.ints (r : List Addr) : ∀ ns : List Int, Rs r (ns.map IV.int) (ns.map V.int)
  | [] => .nil
  | _ :: l => .cons rfl (Rs.ints r l)
section
variable {K : PySem.W.Frag} {W : WX}
theorem s_sorted : SndC K W (rSortedI K) f_sorted := fun r ih H xs us σ Q hr hx q => by
  obtain ⟨a, ns, e, h, q2⟩ := ints_got hr hx q
  refine ⟨a, ns, e, h, fun ns' p hp hle hn => ?_⟩
  have e2 : ns' = isI ns := List.Perm.eq_of_pairwise (le := (· ≤ ·)) (fun a b _ _ h1 h2 => Int.le_antisymm h1 h2) hle (isI_le ns) (hp.trans (isI_perm ns).symm)
  rw [e2]
  exact end_lst q2 hr (Rs.ints r _) hn
end
/-! ### pairs of ints -/
def kI (ih : IH) : IV → Int × Int
  | .ref n => match ih[n]? with
    | some (.tup [.int i, .int j]) => (i, j)
    | _ => (0, 0)
  | _ => (0, 0)
def isPr (ih : IH) : IV → Bool
  | .ref n => match ih[n]? with
    | some (.tup [.int i, .int j]) => true
    | _ => false
  | _ => false
def ltI (ih : IH) (x y : IV) : Bool := SrtO.lexB (kI ih x) (kI ih y)
def f_sortP (xs : List IV) (ih : IH) : Res IV := match xs with
  | [.ref n] => match ih[n]? with
    | some o => if o.isL = true ∧ o.xs.all (isPr ih) = true then .ok (.ref ih.length) (ih ++ [.lst (isB (ltI ih) [] o.xs)]) else .stuck
    | none => .stuck
  | _ => .stuck
def kV (H : Hp) : V → Int × Int
  | .ref a => match H a with
    | some (.tup [.int i, .int j]) => (i, j)
    | _ => (0, 0)
  | _ => (0, 0)
theorem isPr_of {ih : IH} {x : IV} (h : isPr ih x = true) : ∃ n i j, x = .ref n ∧ ih[n]? = some (.tup [.int i, .int j]) := by
  unfold isPr at h
  split at h
  · rename_i n
    split at h
    · rename_i i j e
      exact ⟨n, i, j, rfl, e⟩
    · cases h
  · cases h
section
variable {K : PySem.W.Frag} {W : WX}
theorem pr_rel {r : List Addr} {ih : IH} {H : Hp} (hr : Rel K r ih H) {x : IV} {u : V} (h : R r x u) (hp : isPr ih x = true) : kI ih x = kV H u ∧ ∃ t, u = V.ref t ∧ H t = some (.tup [.int (kV H u).1, .int (kV H u).2]) := by
  obtain ⟨n, i, j, rfl, e⟩ := isPr_of hp
  obtain ⟨a, ea, rfl⟩ := h
  obtain ⟨ys, h1, h2⟩ := hr.get n a _ ea e
  have h3 : ys = [V.int i, V.int j] := by
    cases h2 with
    | cons q1 t =>
      cases t with
      | cons q2 t =>
        cases t
        cases q1
        cases q2
        rfl
  subst h3
  have e1 : kI ih (.ref n) = (i, j) := by
    unfold kI
    dsimp only
    rw [e]
  have e2 : kV H (.ref a) = (i, j) := by
    unfold kV
    dsimp only
    rw [h1]
  rw [e1, e2]
  exact ⟨rfl, a, rfl, h1⟩
theorem s_sortP : SndC K W (rSortedPO K) f_sortP := fun r ih H xs us σ Q hr hx q => by
  unfold f_sortP at q
  split at q
  · rename_i n
    cases hx with
    | cons h1 h2 =>
      cases h2
      obtain ⟨a, ea, rfl⟩ := h1.ref
      split at q
      · rename_i o e1
        split at q
        · rename_i hl
          obtain ⟨ys, h3, h4⟩ := (hr.get n a _ ea e1).l hl.1
          have hall := List.all_eq_true.mp hl.2
          have par : ∀ {zs : List IV} {ws : List V}, (∀ z ∈ zs, isPr ih z = true) → Rs r zs ws → Paired (fun x u => R r x u ∧ isPr ih x = true) zs ws := by
            intro zs ws hz h
            induction h with
            | nil => exact .nil
            | cons q t ihh => exact .cons ⟨q, hz _ List.mem_cons_self⟩ (ihh fun z h => hz z (List.mem_cons_of_mem _ h))
          have P4 := par hall h4
          have mem : ∀ {zs : List IV} {ws : List V}, Paired (fun x u => R r x u ∧ isPr ih x = true) zs ws → ∀ u ∈ ws, ∃ x, R r x u ∧ isPr ih x = true := by
            intro zs ws h
            induction h with
            | nil => intro u h; cases h
            | cons q t ihh =>
              intro u h
              rcases List.mem_cons.mp h with e | e
              · rw [e]; exact ⟨_, q⟩
              · exact ihh u e
          refine ⟨a, ys, kV H, rfl, h3, fun u hu => ?_, fun zs p s1 s2 hn => ?_⟩
          · obtain ⟨x, q1, q2⟩ := mem P4 u hu
            exact (pr_rel hr q1 q2).2
          · obtain ⟨k1, k2⟩ := isB_all (ltP_swo (kV H)) ys
            have e2 : zs = isB (ltP (kV H)) [] ys := SrtO.stb_uniq (ltP_swo (kV H)) s1 k1 (s2.trans (Stb.symm k2))
            rw [e2]
            have P5 := is_par (l1 := ltI ih) (l2 := ltP (kV H)) (fun x y u w h1 h2 => by
              show SrtO.lexB (kI ih x) (kI ih y) = SrtO.lexB (kV H u) (kV H w)
              rw [(pr_rel hr h1.1 h1.2).1, (pr_rel hr h2.1 h2.2).1]) .nil P4
            exact end_lst q hr (Paired.mapP P5 fun _ _ h => h.1) hn
        · exact q.elim
      · exact q.elim
  · exact q.elim
end
end L3
/-! L3l: list(range(a, b)), xs[::-1], x & 1, lists compared. -/
namespace L3
variable [TabT] [LamT]
open PySem L2
theorem Rs.reverse {r : List Addr} : ∀ {xs : List IV} {ys : List V}, Rs r xs ys → Rs r xs.reverse ys.reverse
  | _, _, .nil => .nil
  | _, _, .cons q t => by
    rw [List.reverse_cons, List.reverse_cons]
    exact Rs.append (Rs.reverse t) (.cons q .nil)
def f_rev (x : IV) (ih : IH) : Res IV := match x with
  | .ref n => match ih[n]? with
    | some o => if o.isL = true then .ok (.ref ih.length) (ih ++ [.lst o.xs.reverse]) else .stuck
    | none => .stuck
  | _ => .stuck
def rgI (a b : Int) : List IV := (List.range (b - a).toNat).map fun i : Nat => IV.int (a + (i : Int))
instance (a b : Int) : Decidable (RgOk a b) := by unfold RgOk; infer_instance
def f_lrg (xs : List IV) (ih : IH) : Res IV := match xs with
  | [.int i, .int j] => if RgOk i j then .ok (.ref ih.length) (ih ++ [.lst (rgI i j)]) else .stuck
  | _ => .stuck
def f_odd (x y : IV) (ih : IH) : Res IV := match x, y with
  | .int i, .int j => if 0 ≤ i ∧ j = 1 then .ok (.int (i % 2)) ih else .stuck
  | _, _ => .stuck
open Classical in
noncomputable def f_gtD (x y : IV) (ih : IH) : Res IV :=
  if h : ∃ p : PyData × PyData, Is ih x p.1 ∧ Is ih y p.2 ∧ PySem.W.alike p.1 p.2 = true ∧ p.1 ≠ .none ∧ p.1.depth ≤ 64 then .ok (.bl (PySem.W.dataLt h.choose.2 h.choose.1)) ih else .stuck
theorem f_gtD_of {x y : IV} {ih : IH} {d e : PyData} (h1 : Is ih x d) (h2 : Is ih y e) (s1 : PySem.W.alike d e = true) (s2 : d ≠ .none) (s3 : d.depth ≤ 64) : f_gtD x y ih = .ok (.bl (PySem.W.dataLt e d)) ih := by
  unfold f_gtD
  have h : ∃ p : PyData × PyData, Is ih x p.1 ∧ Is ih y p.2 ∧ PySem.W.alike p.1 p.2 = true ∧ p.1 ≠ .none ∧ p.1.depth ≤ 64 := ⟨(d, e), h1, h2, s1, s2, s3⟩
  rw [dif_pos h]
  have k := h.choose_spec
  rw [Is.uniq _ _ _ k.1 h1, Is.uniq _ _ _ k.2.1 h2]
def rGtD (K : PySem.W.Frag) : R2 := fun x y H Q => ∃ d e, Dp K H x d ∧ Dp K H y e ∧ PySem.W.alike d e = true ∧ d ≠ .none ∧ d.depth ≤ 64 ∧ Q (.bl (PySem.W.dataLt e d)) H
section
variable {X : Cx} {W : WX} {a b : Expr} {ma mb : Env → IH → Res IV} {pos : Pos}
theorem op_gtD (hu : X.A.units + 64 < cLine) : OpR X (compareOp .Gt) (rGtD X.K) := by
  intro pins s σ H x y v u Q I rx ry h
  obtain ⟨d, e, hd, he, sd, se, sz, q⟩ := h
  obtain ⟨as, r1⟩ := Dp.reads I d x v hd rx
  obtain ⟨bs, r2⟩ := Dp.reads I e y u he ry
  exact PySem.W.gt_data r1 r2 sd se (by have := Nat.min_le_left d.depth e.depth; omega) ⟨.bl _, H, I, rfl, q⟩
theorem s_gtD {K : PySem.W.Frag} {W : WX} : Snd2 K W (rGtD K) f_gtD := by
  intro r ih H x y u w σ Q hr hx hy q
  unfold f_gtD at q
  split at q
  · rename_i h
    have k := h.choose_spec
    exact ⟨_, _, Is.dp hr _ _ _ k.1 hx, Is.dp hr _ _ _ k.2.1 hy, k.2.2.1, k.2.2.2.1, k.2.2.2.2, tG_end q hr rfl⟩
  · exact q.elim
theorem s_odd {K : PySem.W.Frag} {W : WX} : Snd2 K W (fun x y H Q => ∃ n : Nat, x = .int (n : Int) ∧ y = .int 1 ∧ Q (.int ((n % 2 : Nat) : Int)) H) f_odd := by
  intro r ih H x y u w σ Q hr hx hy q
  unfold f_odd at q
  split at q
  · rename_i i j
    split at q
    · rename_i hh
      obtain ⟨n, rfl⟩ := Int.eq_ofNat_of_zero_le hh.1
      obtain rfl := hh.2
      cases hx
      cases hy
      refine ⟨n, rfl, rfl, ?_⟩
      exact tG_end q hr (by show V.int _ = V.int _; rw [Int.natCast_emod]; rfl)
    · exact q.elim
  · exact q.elim
theorem lm_rev {k : Nat} {p1 p2 p3 : Pos} (ha : PE X a (tM X.K W ma)) : PE X (.Subscript a (.Slice none none (some (.UnaryOp .USub (.Constant (.int 1) k p1) p2)) p3) pos) (tM X.K W (m_un f_rev ma)) :=
  PE.of (pe_revL ha) fun σ H Q ⟨r, ih, env, hr, he, q⟩ => tG.imp (tG_bind hr he q) fun u H1 ⟨r1, ih1, v, p, hr1, hv, q1⟩ => by
    replace q1 : PGen R X.K W σ r1 (f_rev v ih1) Q := q1
    unfold f_rev at q1
    split at q1
    · rename_i n
      obtain ⟨c, ec, rfl⟩ := hv.ref
      split at q1
      · rename_i o e1
        split at q1
        · rename_i hl
          obtain ⟨ys, h3, h4⟩ := (hr1.get n c _ ec e1).l hl
          exact ⟨c, ys, rfl, h3, fun l hp => end_lst q1 hr1 h4.reverse hp⟩
        · exact q1.elim
      · exact q1.elim
    · exact q1.elim
theorem app2 {f : List IV → IH → Res IV} {env : Env} {ih : IH} : m_app f (m_cons ma (m_cons mb m_nil)) env ih = (ma env ih).bind fun x ih1 => (mb env ih1).bind fun y ih2 => f [x, y] ih2 := by
  unfold m_app m_cons m_nil
  cases ma env ih with
  | ok x ih1 =>
    dsimp only [Res.bind]
    cases mb env ih1 <;> rfl
  | exc c ih1 => rfl
  | stuck => rfl
theorem Rs.rg (r : List Addr) (i j : Int) : Rs r (rgI i j) (rgV i j) := by
  unfold rgI rgV
  generalize List.range (j - i).toNat = l
  induction l with
  | nil => exact .nil
  | cons k l ihl => exact .cons rfl ihl
theorem lm_lrg {p q qos : Pos} (hc : X.calm = true) (h1 : Gl X "list") (h2 : X.mg "list" = none) (h3 : Gl X "range") (h4 : X.mg "range" = none) (ha : PE X a (tM X.K W ma)) (hb : PE X b (tM X.K W mb))
    (na : starEach [a, b] X.env = (false, eval a X.env) :: starEach [b] X.env := by rfl) (nb : starEach [b] X.env = (false, eval b X.env) :: starEach [] X.env := by rfl) (hp : (backTo qos (starEach [b] X.env)).any (·.1) = false := by rfl)
    (nc : starEach [.Call (.Name "range" q) [a, b] [] qos] X.env = (false, eval (.Call (.Name "range" q) [a, b] [] qos) X.env) :: starEach [] X.env := by rfl) :
    PE X (.Call (.Name "list" p) [.Call (.Name "range" q) [a, b] [] qos] [] pos) (tM X.K W (m_app f_lrg (m_cons ma (m_cons mb m_nil)))) :=
  PE.of (pe_listRg hc h1 h2 (prg_2 h3 h4 ha hb na nb hp) nc) fun σ H Q ⟨r, ih, env, hr, he, q⟩ => by
    rw [app2] at q
    exact tG.imp (tG_bind hr he q) fun u H1 ⟨r1, ih1, v, p, hr1, hv, q1⟩ => tG.imp (tG_bind hr1 (he.mono p) q1) fun w H2 ⟨r2, ih2, y, p2, hr2, hy, q2⟩ => by
      have hv2 := hv.mono p2
      replace q2 : PGen R X.K W σ r2 (f_lrg [v, y] ih2) Q := q2
      unfold f_lrg at q2
      split at q2
      · rename_i i j e
        cases e
        split at q2
        · rename_i ok
          cases hv2
          cases hy
          exact ⟨i, j, rfl, rfl, ok, fun l hp => end_lst q2 hr2 (Rs.rg _ i j) hp⟩
        · exact q2.elim
      · exact q2.elim
end
end L3
/-! L3n: chains of three comparisons, in, {}. -/
namespace L3
variable [TabT] [LamT]
open PySem L2 PyProof.Rows
theorem room65 {k : Nat} {A : Around} (h : Room k A) : A.units + 65 < cLine := by
  have := h.un
  omega
/-! ### {} -/
def m_dct (_ : Env) (ih : IH) : Res IV := .ok (.ref ih.length) (ih ++ [.dct])
theorem lm_dct {X : Cx} {W : WX} {pos : Pos} : PE X (.Dict [] [] pos) (tM X.K W m_dct) := PE.of pe_dnewK fun σ H Q ⟨r, ih, env, hr, he, q⟩ p hp =>
  q (r ++ [p]) _ _ pre_one (hr.new hp rfl fun H' e => ⟨_, e⟩) (R.newest hr.len)
/-! ### in -/
open Classical in
noncomputable def f_inn (neg : Bool) (x y : IV) (ih : IH) : Res IV :=
  if h : ∃ p : PyData × List PyData, Is ih x p.1 ∧ Is ih y (.list p.2) ∧ SeqAt.shaped p.1 = true ∧ SeqAt.shaped (.list p.2) = true then .ok (.bl (if neg = true then !(h.choose.2.any fun z => PyData.eqv z h.choose.1) else h.choose.2.any fun z => PyData.eqv z h.choose.1)) ih else .stuck
noncomputable def f_in := f_inn false
noncomputable def f_nin := f_inn true
theorem f_inn_of {neg : Bool} {x y : IV} {ih : IH} {d : PyData} {ds : List PyData} (h1 : Is ih x d) (h2 : Is ih y (.list ds)) (s1 : SeqAt.shaped d = true) (s2 : SeqAt.shaped (.list ds) = true) : f_inn neg x y ih = .ok (.bl (if neg = true then !(ds.any fun z => PyData.eqv z d) else ds.any fun z => PyData.eqv z d)) ih := by
  unfold f_inn
  have h : ∃ p : PyData × List PyData, Is ih x p.1 ∧ Is ih y (.list p.2) ∧ SeqAt.shaped p.1 = true ∧ SeqAt.shaped (.list p.2) = true := ⟨(d, ds), h1, h2, s1, s2⟩
  rw [dif_pos h]
  have k := h.choose_spec
  have e2 : h.choose.2 = ds := by
    have := Is.uniq _ _ _ k.2.1 h2
    cases this
    rfl
  rw [Is.uniq _ _ _ k.1 h1, e2]
theorem s_in {K : PySem.W.Frag} {W : WX} : Snd2 K W (rInD K) f_in := by
  intro r ih H x y u w σ Q hr hx hy q
  unfold f_in f_inn at q
  split at q
  · rename_i h
    have k := h.choose_spec
    exact ⟨_, _, Is.dp hr _ _ _ k.1 hx, Is.dp hr _ _ _ k.2.1 hy, k.2.2.1, k.2.2.2, tG_end q hr rfl⟩
  · exact q.elim
theorem s_nin {K : PySem.W.Frag} {W : WX} : Snd2 K W (rNotInD K) f_nin := by
  intro r ih H x y u w σ Q hr hx hy q
  unfold f_nin f_inn at q
  split at q
  · rename_i h
    have k := h.choose_spec
    exact ⟨_, _, Is.dp hr _ _ _ k.1 hx, Is.dp hr _ _ _ k.2.1 hy, k.2.2.1, k.2.2.2, tG_end q hr rfl⟩
  · exact q.elim
/-! ### a < b <= c < d -/
def m_chain3 (f g h : IV → IV → IH → Res IV) (ma mb mc md : Env → IH → Res IV) (env : Env) (ih : IH) : Res IV := (ma env ih).bind fun x ih1 => (mb env ih1).bind fun y ih2 => (f x y ih2).bind fun z ih3 => match z with
  | .bl k => if k = true then ((mc env ih3).bind fun u ih4 => (g y u ih4).bind fun z ih5 => match z with
    | .bl k => if k = true then (md env ih5).bind fun v ih6 => h u v ih6 else .ok (.bl false) ih5
    | _ => .stuck) else .ok (.bl false) ih3
  | _ => .stuck
def tChain3 (r r' r2 : R2) (ta tb tc td : TE) : TE := fun σ H Q => ta σ H fun x H1 => tb σ H1 fun y H2 => r x y H2 fun z H3 => ∃ k, z = .bl k ∧
  (if k = true then tc σ H3 fun u H4 => r' y u H4 fun z H5 => ∃ k, z = .bl k ∧ (if k = true then td σ H5 fun v H6 => r2 u v H6 Q else Q (.bl false) H5) else Q (.bl false) H3)
section
variable {X : Cx} {W : WX} {a b c d : Expr} {ta tb tc td : TE} {ma mb mc md : Env → IH → Res IV} {pos : Pos}
theorem pe_chain3 {o1 o2 o3 : CmpOp} {r1 r2 r3 : R2} (h1 : OpR X (compareOp o1) r1) (h2 : OpR X (compareOp o2) r2) (h3 : OpR X (compareOp o3) r3) (ha : PE X a ta) (hb : PE X b tb) (hc : PE X c tc) (hd : PE X d td)
    (hm : lastMarks [o1, o2, o3] [b, c, d] = false := by with_unfolding_all rfl) : PE X (.Compare a [o1, o2, o3] [b, c, d] pos) (tChain3 r1 r2 r3 ta tb tc td) := by
  refine ⟨fun pins s σ H Q I h => ?_⟩
  refine Compare_chain (thn (ha.run pins s σ H _ I h) fun v s1 ⟨x, H1, I1, q1, p1⟩ => chain_link (thn (hb.run pins s1 σ H1 _ I1 p1) fun u s2 ⟨y, H2, I2, q2, p2⟩ => thn (h1 pins s2 σ H2 x y v u _ I2 q1 q2 p2) fun e s3 ⟨z, H3, I3, q3, k, ez, p3⟩ => ?_)) hm
  subst ez
  cases q3
  refine wpAny_truthy_bool ?_
  cases k with
  | false => exact ite_ff ⟨.bl false, H3, I3, rfl, p3⟩
  | true =>
    refine ite_tt (chain_link (thn (hc.run pins s3 σ H3 _ I3 p3) fun w s4 ⟨y2, H4, I4, q4, p4⟩ => thn (h2 pins s4 σ H4 y y2 u w _ I4 q2 q4 p4) fun e s5 ⟨z, H5, I5, q5, k, ez, p5⟩ => ?_))
    subst ez
    cases q5
    refine wpAny_truthy_bool ?_
    cases k with
    | false => exact ite_ff ⟨.bl false, H5, I5, rfl, p5⟩
    | true => exact ite_tt (chain_last (thn (hd.run pins s5 σ H5 _ I5 p5) fun w2 s6 ⟨y3, H6, I6, q6, p6⟩ => h3 pins s6 σ H6 y2 y3 w w2 Q I6 q4 q6 p6))
theorem pt_chain3 {o1 o2 o3 : CmpOp} {r1 r2 r3 : R2} (h1 : OpR X (compareOp o1) r1) (h2 : OpR X (compareOp o2) r2) (h3 : OpR X (compareOp o3) r3) (ha : PE X a ta) (hb : PE X b tb) (hc : PE X c tc) (hd : PE X d td)
    (hm : lastMarks [o1, o2, o3] [b, c, d] = false := by with_unfolding_all rfl) : PT X (.Compare a [o1, o2, o3] [b, c, d] pos) (tTest (tChain3 r1 r2 r3 ta tb tc td)) := by
  refine ⟨fun pins s σ H Q I h => ?_⟩
  refine isTrue_chain (thn (ha.run pins s σ H _ I h) fun v s1 ⟨x, H1, I1, q1, p1⟩ => test_link (thn (hb.run pins s1 σ H1 _ I1 p1) fun u s2 ⟨y, H2, I2, q2, p2⟩ => thn (h1 pins s2 σ H2 x y v u _ I2 q1 q2 p2) fun e s3 ⟨z, H3, I3, q3, k, ez, p3⟩ => ?_)) hm
  subst ez
  cases q3
  refine wpAny_truthy_bool ?_
  cases k with
  | false =>
    obtain ⟨k', e', q'⟩ := p3
    cases e'
    exact ite_ff ⟨H3, I3, q'⟩
  | true =>
    refine ite_tt (test_link (thn (hc.run pins s3 σ H3 _ I3 p3) fun w s4 ⟨y2, H4, I4, q4, p4⟩ => thn (h2 pins s4 σ H4 y y2 u w _ I4 q2 q4 p4) fun e s5 ⟨z, H5, I5, q5, k, ez, p5⟩ => ?_))
    subst ez
    cases q5
    refine wpAny_truthy_bool ?_
    cases k with
    | false =>
      obtain ⟨k', e', q'⟩ := p5
      cases e'
      exact ite_ff ⟨H5, I5, q'⟩
    | true =>
      refine ite_tt (test_last (thn (hd.run pins s5 σ H5 _ I5 p5) fun w2 s6 ⟨y3, H6, I6, q6, p6⟩ => thn (h3 pins s6 σ H6 y2 y3 w w2 _ I6 q4 q6 p6) fun d' s7 ⟨z2, H7, I7, q7, k2, e2, p7⟩ => ?_))
      subst e2
      cases q7
      exact wpAny_truthy_bool ⟨H7, I7, p7⟩
theorem chain3_core {r1 r2 r3 : R2} {f g e : IV → IV → IH → Res IV} (hf : Snd2 X.K W r1 f) (hg : Snd2 X.K W r2 g) (he' : Snd2 X.K W r3 e) {σ : L2.St} {H : Hp} {Q : VK} (h : tM X.K W (m_chain3 f g e ma mb mc md) σ H Q) : tChain3 r1 r2 r3 (tM X.K W ma) (tM X.K W mb) (tM X.K W mc) (tM X.K W md) σ H Q := by
  obtain ⟨r, ih, env, hr, he, q⟩ := h
  refine tG.imp (tG_bind hr he q) fun u H1 ⟨r1, ih1, v, p, hr1, hv, q1⟩ => tG.imp (tG_bind hr1 (he.mono p) q1) fun w H2 ⟨r2, ih2, y, p2, hr2, hy, q2⟩ => hf r2 ih2 H2 v y u w σ _ hr2 (hv.mono p2) hy ?_
  dsimp only at q2
  cases e1 : f v y ih2 with
  | ok z ih3 =>
    rw [e1] at q2
    intro r3 H3 z' p3 hr3 hz
    cases z with
    | bl k =>
      obtain rfl : z' = .bl k := hz
      refine ⟨k, rfl, ?_⟩
      cases k with
      | true =>
        rw [if_pos rfl]
        have q3 : PGen R X.K W σ r2 ((mc env ih3).bind fun u ih4 => (g y u ih4).bind fun z ih5 => match z with
          | .bl k => if k = true then (md env ih5).bind fun v ih6 => e u v ih6 else .ok (.bl false) ih5
          | _ => .stuck) Q := q2
        have P3 := pre_trans p (pre_trans p2 p3)
        refine tG.imp (tG_bind hr3 (he.mono P3) (PGen.mono p3 q3)) fun u4 H4 ⟨r4, ih4, v4, p4, hr4, hv4, q4⟩ => hg r4 ih4 H4 y v4 w u4 σ _ hr4 (hy.mono (pre_trans p3 p4)) hv4 ?_
        dsimp only at q4
        cases e2 : g y v4 ih4 with
        | ok z ih5 =>
          rw [e2] at q4
          intro r5 H5 z' p5 hr5 hz
          cases z with
          | bl k =>
            obtain rfl : z' = .bl k := hz
            refine ⟨k, rfl, ?_⟩
            cases k with
            | true =>
              rw [if_pos rfl]
              have q5 : PGen R X.K W σ r4 ((md env ih5).bind fun v ih6 => e v4 v ih6) Q := q4
              exact tG.imp (tG_bind hr5 (he.mono (pre_trans P3 (pre_trans p4 p5))) (PGen.mono p5 q5)) fun u6 H6 ⟨r6, ih6, v6, p6, hr6, hv6, q6⟩ => he' _ _ _ _ _ _ _ _ _ hr6 (hv4.mono (pre_trans p5 p6)) hv6 q6
            | false =>
              rw [if_neg (by decide)]
              have q5 : PGen R X.K W σ r4 (.ok (.bl false) ih5) Q := q4
              exact q5 r5 H5 _ p5 hr5 rfl
          | _ => exact (q4 : False).elim
        | exc c ih5 =>
          rw [e2] at q4
          exact q4
        | stuck =>
          rw [e2] at q4
          exact q4
      | false =>
        rw [if_neg (by decide)]
        have q3 : PGen R X.K W σ r2 (.ok (.bl false) ih3) Q := q2
        exact q3 r3 H3 _ p3 hr3 rfl
    | _ => exact (q2 : False).elim
  | exc c ih3 =>
    rw [e1] at q2
    exact q2
  | stuck =>
    rw [e1] at q2
    exact q2
theorem lm_chain3 {o1 o2 o3 : CmpOp} {r1 r2 r3 : R2} {f g e : IV → IV → IH → Res IV} (h1 : OpR X (compareOp o1) r1) (hf : Snd2 X.K W r1 f) (h2 : OpR X (compareOp o2) r2) (hg : Snd2 X.K W r2 g) (h3 : OpR X (compareOp o3) r3) (he : Snd2 X.K W r3 e) (ha : PE X a (tM X.K W ma)) (hb : PE X b (tM X.K W mb)) (hc : PE X c (tM X.K W mc)) (hd : PE X d (tM X.K W md))
    (hm : lastMarks [o1, o2, o3] [b, c, d] = false := by with_unfolding_all rfl) : PE X (.Compare a [o1, o2, o3] [b, c, d] pos) (tM X.K W (m_chain3 f g e ma mb mc md)) := PE.of (pe_chain3 h1 h2 h3 ha hb hc hd hm) fun σ H Q h => chain3_core hf hg he h
theorem lt_chain3 {o1 o2 o3 : CmpOp} {r1 r2 r3 : R2} {f g e : IV → IV → IH → Res IV} (h1 : OpR X (compareOp o1) r1) (hf : Snd2 X.K W r1 f) (h2 : OpR X (compareOp o2) r2) (hg : Snd2 X.K W r2 g) (h3 : OpR X (compareOp o3) r3) (he : Snd2 X.K W r3 e) (ha : PE X a (tM X.K W ma)) (hb : PE X b (tM X.K W mb)) (hc : PE X c (tM X.K W mc)) (hd : PE X d (tM X.K W md))
    (hm : lastMarks [o1, o2, o3] [b, c, d] = false := by with_unfolding_all rfl) : PT X (.Compare a [o1, o2, o3] [b, c, d] pos) (tMT X.K W (m_tb (m_chain3 f g e ma mb mc md))) := PT.of (pt_chain3 h1 h2 h3 ha hb hc hd hm) fun σ H Q h => chain3_core hf hg he (tb_core h)
end
end L3
/-! L3p: a def called by its parameters' names alone. -/
namespace L3
variable [TabT] [LamT]
open PySem PySem.Spec PyProof.Rows L2
/-- g puts the keywords' values, as they are written, in the parameters' order -/
structure DfK (P : Program) (w : World) (K : PySem.W.Frag) (mg : Str → Option Value) (base : Heap) (k : Nat) (x : Str) (n : Nat) (ks : List Str) (g : {α : Type} → List α → List α) (m : List IV → IH → Res IV) : Prop where
  par : ∀ {α β : Type} {T : α → β → Prop} {xs : List α} {ys : List β}, Paired T xs ys → Paired T (g xs) (g ys)
  ex : ∃ (f : Addr) (fd : FuncData) (ps : List Str), ps.length = n ∧ mg x = some (.ref f) ∧ PySem.W.keepIn K (.ref f) = true ∧ FnOk P w K mg base (L2.CX P w) k f fd ps (spM K n m) ∧ KBn K fd ps 0 ks (fun _ ws => g ws) (fun _ zs => g zs)
def f_callK (n l : Nat) (g : {α : Type} → List α → List α) (m : List IV → IH → Res IV) (xs : List IV) (ih : IH) : Res IV := if xs.length = l ∧ (g xs).length = n then m (g xs) ih else .stuck
section
variable {X : Cx} {W : WX} {k n : Nat} {x : Str} {ks : List Str} {g : {α : Type} → List α → List α} {m : List IV → IH → Res IV} {kws : List Keyword} {p pos : Pos} {ma : Env → IH → Res (List IV)}
theorem lk_nil : PK X [] (tMA X.K W m_nil) := ⟨fun pos pins s σ H Q I ⟨r, ih, env, hr, he, q⟩ => pk_nil.run pos pins s σ H Q I (tG_end q hr .nil)⟩
theorem lk_cons {e : Expr} {nm : Option Str} {kpos : Pos} {mx : Env → IH → Res IV} {mr : Env → IH → Res (List IV)} (hx : PE X e (tM X.K W mx)) (hr : PK X kws (tMA X.K W mr)) : PK X (⟨nm, e, kpos⟩ :: kws) (tMA X.K W (m_cons mx mr)) :=
  ⟨fun pos pins s σ H Q I ⟨r, ih, env, h, he, q⟩ => (pk_cons hx hr).run pos pins s σ H Q I (tG.imp (tG_bind h he q) fun u H1 ⟨r1, ih1, v, p1, hr1, hv, q1⟩ => tG.imp (tG_bind hr1 (he.mono p1) q1) fun us H2 ⟨r2, ih2, vs, p2, hr2, hvs, q2⟩ => tG_end q2 hr2 (.cons (hv.mono p2) hvs))⟩
theorem run_fnK {CX : CXT} {f : Addr} {fd : FuncData} {ps : List Str} {sp : Sp} {pins : List (Addr × Obj)} {σ : L2.St} {H : Hp} {s : Shared} {Q : VK} {ws : List Value} {zs : List V} {E : L2.St → XK} {gl : List Value → List Value → List Value} {gV : List V → List V → List V} (F : FnOk X.prog X.w X.K X.mg X.base CX k f fd ps sp) (hr : Room k X.A) (hb : KBn X.K fd ps 0 ks gl gV)
    (hx : PassesAt CX X σ (E σ)) (I : L2.Inv X pins σ H s) (rz : Vals zs ws) (l2 : zs.length = ks.length) (h : sp (gV [] zs) H Q (E σ)) : wpAny (model X.prog X.w) X.A (call (.ref f) [] (ks.zip ws)) (EP X pins σ Q) X.xe s := by
  have r2 := hb.rel (vs := []) (us := []) .nil rz
  refine wpAny_call (codeAny_mono (F.run X.A X.stack s H ⟨[], ks.zip ws⟩ (gl [] ws) (gV [] zs) Q (E σ) hr I.env0 (hb.to s [] ws I.kIn rfl (rz.length.symm.trans l2)) r2 h) fun r s' hq => ?_)
  cases r with
  | error e => exact hx pins H s e s' I hq
  | ok fl =>
    cases fl with
    | ret u => exact I.after hq
    | next => exact False.elim hq
    | brk => exact False.elim hq
    | cont => exact False.elim hq
theorem lm_callK (D : DfK X.prog X.w X.K X.mg X.base k x n ks g m) (hr : Room k X.A) (hg : Gl X x) (tk : Takes X W) (ha : PK X kws (tMA X.K W ma)) (hall : (backToKw pos (keywordEach kws X.env)).all (·.1.isSome) = true := by rfl) (hks : (backToKw pos (keywordEach kws X.env)).filterMap (·.1) = ks := by rfl)
    (hdb : (x == ("__debug__" : Str)) = false := by decide) (hpl : ((backTo pos (starEach [] X.env)).any (·.1) || (backToKw pos (keywordEach kws X.env)).any (·.1.isNone)) = false := by rfl) :
    PE X (.Call (.Name x p) [] kws pos) (tM X.K W (m_app (f_callK n ks.length g m) ma)) := by
  obtain ⟨f, fd, ps, hn, hm, hk, F, hB⟩ := D.ex
  refine ⟨fun pins s σ H Q I ⟨r, ih, env, hrl, he, q⟩ => ?_⟩
  refine wpAny_Call_Name_kw (ld_glob I hg hm ?_ hdb)
  refine PySem.W.callWith_KW0 (h₀ := X.base) I.ok.mod.kin hk hall (thn (ha.run pos pins s σ H _ I (tG_bind hrl he q)) fun ws s2 ⟨zs, H2, I2, rz, r1, ih1, v, p1, hr1, hv, q1⟩ => ⟨I2.kIn, ?_⟩) hpl
  rw [hks]
  dsimp only at q1
  unfold f_callK at q1
  split at q1
  · rename_i hl
    refine run_fnK F hr hB (passAt tk σ) I2 rz (hv.length.symm.trans hl.1) ⟨r1, ih1, g v, hl.2, hr1, D.par hv, ?_⟩
    cases e : m (g v) ih1 with
    | ok y ih2 => rw [e] at q1; exact q1
    | exc c ih2 => rw [e] at q1; exact q1
    | stuck => rw [e] at q1; exact q1
  · exact q1.elim
end
/-- four parameters, written the other way about -/
def rev4 : {α : Type} → List α → List α
  | _, [a, b, c, d] => [d, c, b, a]
  | _, l => l
theorem rev4_par {α β : Type} {T : α → β → Prop} {xs : List α} {ys : List β} (h : Paired T xs ys) : Paired T (rev4 xs) (rev4 ys) := by
  cases h with
  | nil => exact .nil
  | cons a h =>
    cases h with
    | nil => exact .cons a .nil
    | cons b h =>
      cases h with
      | nil => exact .cons a (.cons b .nil)
      | cons c h =>
        cases h with
        | nil => exact .cons a (.cons b (.cons c .nil))
        | cons d h =>
          cases h with
          | nil => exact .cons d (.cons c (.cons b (.cons a .nil)))
          | cons e h => exact .cons a (.cons b (.cons c (.cons d (.cons e h))))
section
variable {P : Program} {w : World} {K : PySem.W.Frag} {mg : Str → Option Value} {base : Heap} {k : Nat} {x qual : Str} {st : Stmt} {f : Addr} {fd : FuncData} {N ps ks : List Str} {mb : Env → IH → RS}
theorem dfK4 (F : FunD K x qual (defArgs st) (defBody st) (defScope st) [] [] f fd) (S : FnScope N ps (defScope st)) (hm : mg x = some (.ref f)) (h4 : ks.length = 4)
    (h : ∀ (kV doc pm : Value) (an : Option Addr) (cdv ct : Value) (a b c d : Value), bindArgs (PySem.W.fnOf x qual (defArgs st) (defBody st) (defScope st) .none kV doc pm an cdv ct) ⟨[], ks.zip [a, b, c, d]⟩ = pure (ps.zip [d, c, b, a]))
    (hbody : BodyOk P w K mg base k N qual st f mb) : DfK P w K mg base (k + 1) x ps.length ks rev4 (defRun N.length mb) := by
  refine ⟨fun h => rev4_par h, f, fd, ps, rfl, hm, F.kp, df_fn2 F S hbody, ⟨fun s us ws _ h1 h2 => ?_, fun _ r2 => rev4_par r2⟩⟩
  obtain ⟨oc, od, dV, kV, doc, pm, an, cdv, ct, osl, rfl, lk, hcd, hD, hK⟩ := F.ex
  rw [h4] at h2
  match us, ws, h1, h2 with
  | [], [a, b, c, d], _, _ =>
    rcases hD with ⟨_, rfl⟩ | ⟨e, _⟩
    · exact .of_eq (h kV doc pm an cdv ct a b c d)
    · exact absurd rfl e
end
end L3
/-! L3q: a lambda of one parameter, handed to a def behind its other arguments. -/
namespace L3
variable [TabT] [LamT]
open PySem PySem.Spec PyProof.Rows L2

abbrev XN : XK := fun _ _ _ => False
/-- fits(e): the closure is the object n, in slot i -/
def m_fits (i n : Nat) (lam : IV → IH → Res IV) (me : Env → IH → Res IV) (env : Env) (ih : IH) : Res IV := match env[i]? with
  | some (some (.ref m)) => if m = n then (me env ih).bind fun x ih1 => (match lam x ih1 with
      | .ok v ih2 => .ok v ih2
      | _ => .stuck) else .stuck
  | _ => .stuck
/-- x(es, lambda a: body) -/
def m_callL (g : Nat → (IV → IH → Res IV) → List IV → IH → Res IV) (lam : Env → IV → IH → Res IV) (ma : Env → IH → Res (List IV)) (env : Env) (ih : IH) : Res IV :=
  (ma env ih).bind fun xs ih1 => match g ih1.length (lam env) (xs ++ [.ref ih1.length]) (ih1 ++ [.clo]) with
    | .ok v ih2 => .ok v ih2
    | _ => .stuck
/-- the lambda's body, by its parameter's slot -/
def lamB (p : Nat) (ml : Env → IH → Res IV) (env : Env) (x : IV) (ih : IH) : Res IV := ml (env.set p (some x)) ih

/-! ### its names -/
structure LamP (sc scope : Scope) (a : Str) : Prop where
  kd : scope.kind = .function
  nco : scope.isCoroutine = false
  ngn : scope.isGenerator = false
  par : scope.names.lookup a = some .local
  loc : ∀ y ∈ scope.names, y.2 = .local → y.1 = a
  ncl : ∀ y ∈ scope.names, y.2 ≠ .cell
  fre : ∀ y ∈ scope.names, y.2 = .free → sc.names.lookup y.1 = some .cell ∨ sc.names.lookup y.1 = some .free
def lamPB (sc scope : Scope) (a : Str) : Bool :=
  decide (scope.kind = .function) && !scope.isCoroutine && !scope.isGenerator && decide (scope.names.lookup a = some .local) &&
    scope.names.all fun y => (!decide (y.2 = .local) || decide (y.1 = a)) && !decide (y.2 = .cell) && (!decide (y.2 = .free) || (decide (sc.names.lookup y.1 = some .cell) || decide (sc.names.lookup y.1 = some .free)))
theorem lamP_by {sc scope : Scope} {a : Str} (h : lamPB sc scope a = true) : LamP sc scope a := by
  unfold lamPB at h
  simp only [Bool.and_eq_true, Bool.or_eq_true, Bool.not_eq_true', decide_eq_true_eq, decide_eq_false_iff_not, List.all_eq_true] at h
  obtain ⟨⟨⟨⟨h1, h2⟩, h3⟩, h4⟩, h5⟩ := h
  exact ⟨h1, h2, h3, h4, fun y hy e => (h5 y hy).1.1.resolve_left fun z => z e, fun y hy => (h5 y hy).1.2, fun y hy e => (h5 y hy).2.resolve_left fun z => z e⟩
section
variable {X : Cx} {pins : List (Addr × Obj)} {σ : L2.St} {H HZ : Hp} {s s1 : Shared} {scope : Scope} {a : Str}
theorem LamP.has (L : LamP X.env.scope scope a) (ok : X.Ok) : ∀ y ∈ scope.names, y.2 = .free → ∃ c, X.env.cells.lookup y.1 = some c := fun y hy e =>
  (L.fre y hy e).elim (fun k => ok.has y.1 (.inl k)) fun k => ok.has y.1 (.inr k)
/-- the lambda's frame, entered from the frames outer with the argument u -/
theorem lam_enter {A : Around} {outer : List PySem.Env} {E : XK} {f c' : Addr} {h₁ : Heap} {tk p : Nat} {y : V} {u : Value} (I : L2.Inv X pins σ H s) (L : LamP X.env.scope scope a) (e0 : Env0 X.prog X.w X.K X.mg X.base A outer s1 HZ) (hd : A.handled = none)
    (hN : X.N.Nodup) (hp : X.N[p]? = some a) (ry : RelV y u) (un : ∀ z c v, X.env.cells.lookup z = some c → s.heap.IsCell c v → s1.heap.IsCell c v ∧ HZ c = none) (hns : h₁.Ns s1.heap.objs.size fun z => ([(a, u)] : List (Str × Value)).reverse.lookup z) (kp : ∀ b o, s1.heap.get? b = some o → h₁.get? b = some o) :
    L2.Inv (LamX.lamCx X A outer s1 HZ E scope f c') [] (σ.set p (some y)) HZ { s1 with heap := h₁, toks := tk } := by
  have hfree := L.has I.ok
  have inX : ∀ {z : Str} {c : Addr}, (cloFrom X.env.cells scope.names []).lookup z = some c → X.env.cells.lookup z = some c := fun {z c} e => by
    rcases cloFrom_mem (PySem.mem_of_lookup e) with hm | ⟨h1, h2⟩
    · cases hm
    · obtain ⟨c1, hc⟩ := hfree _ h1 rfl
      have hc' : X.env.cells.lookup z = some c1 := hc
      have ec : c = c1 := by
        rw [h2, hc'] <;> rfl
      rw [ec]
      exact hc'
  have got : ∀ {z : Str}, scope.names.lookup z = some .free → ∃ c, (cloFrom X.env.cells scope.names []).lookup z = some c := fun {z} hl =>
    mem_lookup (cloFrom_has (cells := X.env.cells) (acc := []) (show (z, NameKind.free) ∈ scope.names from PySem.mem_of_lookup hl))
  have held : ∀ {z : Str} {c : Addr} {v : Option Value}, X.env.cells.lookup z = some c → s.heap.IsCell c v → h₁.IsCell c v := fun {z c v} n q => by
    obtain ⟨o, ho, hdat⟩ := (un z c v n q).1
    exact ⟨o, kp _ _ ho, hdat⟩
  have noA : ∀ b : Addr, b ∉ (LamX.lamCx X A outer s1 HZ E scope f c').ex := fun b z => absurd (show b ∈ ([] : List Addr) from z) (by simp)
  have okL : (LamX.lamCx X A outer s1 HZ E scope f c').Ok := {
    mod := e0.mod
    kind := L.kd
    glob := rfl
    blt := rfl
    above := Nat.le_refl _
    inj := fun y1 y2 c e1 e2 => I.ok.inj y1 y2 c (inX e1) (inX e2)
    has := fun z hz => (show scope.names.lookup z = some .cell ∨ scope.names.lookup z = some .free from hz).elim (fun k => absurd rfl (L.ncl _ (PySem.mem_of_lookup k))) fun k => got k
    cab := fun z c hz _ => absurd (show false = true from hz) Bool.false_ne_true
    hd := fun _ => hd
    frames := Around.frames_deeper e0.frames
    stk := .inr ⟨rfl, rfl⟩
    exf := fun b z => absurd z (noA b)
    bs := e0.bs
    bsz := e0.bsz
    noex := fun b _ _ => noA b
    exfs := fun b z => absurd z (noA b)
    funs := e0.funs
    frf := e0.frf }
  refine ⟨okL, rfl, e0.bare, Un.kept kp, ⟨_, hns, fun i z v e1 e2 e3 => ?_⟩, fun z c e => ?_, e0.hok.fresh (Nat.le_refl _), fun z c e => ?_, fun q hq => absurd (show q ∈ ([] : List (Addr × Obj)) ++ [] from hq) (by simp), e0.hok.kept kp, by rw [List.length_set]; exact I.len⟩
  · have e1' : X.N[i]? = some z := e1
    have e3' : Vis scope z := e3
    by_cases hz : z = a
    · subst hz
      obtain rfl : i = p := nodup_ix hN e1' hp
      have hl : i < σ.length := by rw [I.len]; exact (List.getElem?_eq_some_iff.mp hp).1
      rw [List.getElem?_set_self hl] at e2
      cases e2
      exact ⟨u, ry, .inl ⟨L.par, by simp⟩⟩
    · have hip : p ≠ i := fun e => hz (by rw [← e, hp] at e1'; exact (Option.some.inj e1').symm)
      rw [List.getElem?_set_ne hip] at e2
      rcases e3' with k | k | k
      · exact absurd (L.loc _ (PySem.mem_of_lookup k) rfl) hz
      · exact absurd rfl (L.ncl _ (PySem.mem_of_lookup k))
      · obtain ⟨m, hn, hl⟩ := I.loc
        have sees := L.fre _ (PySem.mem_of_lookup k) rfl
        obtain ⟨w', rw', q⟩ := hl i z v e1' e2 (sees.elim (fun k2 => .inr (.inl k2)) fun k2 => .inr (.inr k2))
        obtain ⟨c2, h2⟩ := got k
        refine ⟨w', rw', .inr ⟨.inr k, c2, h2, ?_⟩⟩
        have c1 := inX h2
        rcases q with ⟨k', _⟩ | ⟨_, c3, e', zc⟩
        · have k2' : X.env.scope.names.lookup z = some .local := k'
          rcases sees with k2 | k2
          · have k3 : X.env.scope.names.lookup z = _ := k2
            rw [k3] at k2'
            cases k2'
          · have k3 : X.env.scope.names.lookup z = _ := k2
            rw [k3] at k2'
            cases k2'
        · rw [c1] at e'
          cases e'
          exact held c1 zc
  · obtain ⟨w', zc⟩ := I.cell z c (inX e)
    exact ⟨w', held (inX e) zc⟩
  · obtain ⟨v, zc⟩ := I.cell z c (inX e)
    exact (un z c v (inX e) zc).2
end
theorem takes_none {X : Cx} : Takes X W0 := fun _ _ x => by
  obtain ⟨_, _, _, _, _, _, _, _, _, _, _, _, _, _, _, _, z⟩ := x
  exact z.elim
/-- a heap of which only some objects are told -/
noncomputable def keepH (h : Heap) (P : Addr → Prop) : Heap := by
  classical
  exact ⟨h.objs.mapIdx fun i o => if P i then o else { cls := .none, data := .freed }, h.life⟩
theorem keepH_size {h : Heap} {P : Addr → Prop} : (keepH h P).objs.size = h.objs.size := by
  unfold keepH
  exact Array.size_mapIdx
theorem keepH_in {h : Heap} {P : Addr → Prop} {b : Addr} (hb : P b) : (keepH h P).get? b = h.get? b := by
  unfold keepH Heap.get?
  dsimp only
  rw [Array.getElem?_mapIdx]
  cases h.objs[b]? with
  | none => rfl
  | some o => rw [Option.map_some, if_pos hb]
theorem keepH_out {h : Heap} {P : Addr → Prop} {b : Addr} (hb : ¬ P b) : (keepH h P).get? b = none := by
  unfold keepH Heap.get?
  dsimp only
  rw [Array.getElem?_mapIdx]
  cases h.objs[b]? with
  | none => rfl
  | some o => rw [Option.map_some, if_neg hb]
theorem keepH_sub {h : Heap} {P : Addr → Prop} {b : Addr} {o : Obj} (e : (keepH h P).get? b = some o) : P b ∧ h.get? b = some o := by
  by_cases hb : P b
  · rw [keepH_in hb] at e
    exact ⟨hb, e⟩
  · rw [keepH_out hb] at e
    cases e
theorem mod_keeps {K : PySem.W.Frag} {mg : Str → Option Value} {b1 b2 : Heap} (M : Mod K mg b1) (k : ∀ b o, b1.get? b = some o → b2.get? b = some o) : Mod K mg b2 :=
  ⟨M.kin.keeps k, M.glob.keeps k, M.blt.elim fun mb q => ⟨mb, q.1.keeps k, q.2⟩, M.nolimit.keeps k⟩
theorem funs_base {h b1 b2 : Heap} : ∀ {l : List PySem.Env}, h.FunFrames b1 l → (∀ L ∈ frs l, b1.get? L = none → b2.get? L = none) → h.FunFrames b2 l
  | [], _, _ => trivial
  | env :: rest, ⟨hk, ⟨L, o, hf, hn, ho, hd⟩, hr⟩, k => by
    have e : frs (env :: rest) = L :: frs rest := by
      show (env :: rest).filterMap (·.frame) = L :: rest.filterMap (·.frame)
      rw [List.filterMap_cons, hf]
    exact ⟨hk, ⟨L, o, hf, k L (by rw [e]; exact List.mem_cons_self) hn, ho, hd⟩, funs_base hr fun M hM => k M (by rw [e]; exact List.mem_cons_of_mem _ hM)⟩
section
variable {X : Cx} {pins : List (Addr × Obj)} {σ : L2.St} {H : Hp} {s : Shared}
/-- the context of the def that got the lambda, entered at s; base2: what is known to stay there -/
abbrev Zx (X : Cx) (base2 : Heap) (Ng : List Str) (qg : Str) (sg : Scope) (g : Addr) (cdg : Value) (s : Shared) (H : Hp) : Cx := cxOf (L2.CX X.prog X.w) X.prog X.w X.K X.mg base2 Ng qg sg g cdg X.A X.stack s H XN
/-- a context of that def: its own, or a block's -/
abbrev Zin (Z : Cx) (s0 : Shared) (H0 : Hp) (env : PySem.Env) (outer : List PySem.Env) (ex : List Addr) (fn : Str → Bool) (calm : Bool) (pn : List (Addr × Obj)) (xe : Value → Shared → Prop) : Cx :=
  Cx.mk Z.prog Z.w Z.K Z.mg Z.base Z.A Z.N s0 H0 env outer Z.stack ex fn calm pn xe
/-- what a lambda's call does there -/
abbrev ActOk (Z : Cx) (i n : Nat) (a : Str) (lam : IV → IH → Res IV) : Prop :=
  ∀ {s0 : Shared} {H0 : Hp} {env : PySem.Env} {outer : List PySem.Env} {ex : List Addr} {fn : Str → Bool} {calm : Bool} {pn : List (Addr × Obj)} {xe : Value → Shared → Prop} {e : Expr} {me : Env → IH → Res IV} {p1 p2 : Pos},
    PE (Zin Z s0 H0 env outer ex fn calm pn xe) e (tM Z.K W0 me) → Vis env.scope a → (starEach [e] env = [(false, eval e env)]) → PE (Zin Z s0 H0 env outer ex fn calm pn xe) (.Call (.Name a p1) [e] [] p2) (tM Z.K W0 (m_fits i n lam me))
theorem act_ok {base2 : Heap} {Ng : List Str} {qg : Str} {sg : Scope} {g f c' : Addr} {cdg pm ctv : Value} {params : Arguments} {body : Expr} {scope : Scope} {k i n p : Nat} {a b : Str} {ml : Env → IH → Res IV} {env0 : Env}
    (I : L2.Inv X pins σ H s) (L : LamP X.env.scope scope b) (hN : X.N.Nodup) (hp : X.N[p]? = some b) (he0 : REnv LamT.r0 env0 σ) (hn : LamT.r0[n]? = some f) (hcs : (c', X.env.qual ++ "<lambda>") ∈ LamT.cs)
    (hf : base2.get? f = some (PySem.W.kla_obj "<lambda>" (X.env.qual ++ "<lambda>") params body scope (cloFrom X.env.cells scope.names []) pm c' ctv)) (hcl : ∀ z c o, X.env.cells.lookup z = some c → s.heap.get? c = some o → base2.get? c = some o)
    (hb2 : ∀ b o, X.base.get? b = some o → base2.get? b = some o) (hz2 : X.base.objs.size ≤ base2.objs.size)
    (hbind : ∀ v : Value, bindArgs (PySem.W.kla_fn "<lambda>" (X.env.qual ++ "<lambda>") params body scope (cloFrom X.env.cells scope.names []) pm (.ref c') ctv) ⟨[v], []⟩ = pure [(b, v)])
    (hr : Room (k + 1) (X.A.deeper (envOfC qg sg s.heap.objs.size g cdg)))
    (hbody : ∀ (A : Around) (outer : List PySem.Env) (s' : Shared) (H' : Hp), Room k (A.deeper (LamX.lamEnv X scope s'.heap.objs.size f c')) → PE (LamX.lamCx X A outer s' H' XN scope f c') body (tM X.K W0 ml))
    (hNg : Ng[i]? = some a) (hd : (a == ("__debug__" : Str)) = false := by decide) (hcd : (a == ("__classdict__" : Str)) = false := by decide) : ActOk (Zx X base2 Ng qg sg g cdg s H) i n a (lamB p ml env0) := by
  intro s0 H0 env1 outer ex fn calm pn xe e me p1 p2 he hv hst
  generalize hZ : Zin (Zx X base2 Ng qg sg g cdg s H) s0 H0 env1 outer ex fn calm pn xe = Z at he ⊢
  have zb : Z.base = base2 := by rw [← hZ]; rfl
  have zA : Z.A = X.A.deeper (envOfC qg sg s.heap.objs.size g cdg) := by rw [← hZ]; rfl
  have zs : Z.stack = envOfC qg sg s.heap.objs.size g cdg :: X.stack := by rw [← hZ]; rfl
  have zN : Z.N = Ng := by rw [← hZ]; rfl
  have zp : Z.prog = X.prog := by rw [← hZ]; rfl
  have zw : Z.w = X.w := by rw [← hZ]; rfl
  have zK : Z.K = X.K := by rw [← hZ]; rfl
  have zm : Z.mg = X.mg := by rw [← hZ]; rfl
  have zv : Vis Z.env.scope a := by rw [← hZ]; exact hv
  have hst : starEach [e] Z.env = [(false, eval e Z.env)] := by rw [← hZ]; exact hst
  have he : PE Z e (tM X.K W0 me) := he
  show PE Z (.Call (.Name a p1) [e] [] p2) (tM X.K W0 (m_fits i n (lamB p ml env0) me))
  clear hZ
  obtain ⟨Zprog, Zw, ZK, Zmg, Zbase, ZA, ZN, Zs0, ZH0, Zenv, Zouter, Zstack, Zex, Zfn, Zcalm, Zpn, Zxe⟩ := Z
  dsimp only at zb zA zs zN zp zw zK zm zv hst
  replace zb := zb.symm
  subst zb
  subst zA
  subst zs
  replace zN := zN.symm
  subst zN
  subst zp
  subst zw
  subst zK
  subst zm
  refine ⟨fun pinsZ sZ σZ HZ Q IZ ⟨r, ih, env, hrl, hen, q⟩ => ?_⟩
  unfold m_fits at q
  split at q
  · rename_i m hm
    split at q
    · rename_i hmn
      subst hmn
      obtain ⟨u0, hu0, a0, ha0, hu1⟩ := hen.2 i _ hm
      subst hu1
      have ha1 : r[m]? = some f := pre_get hrl.pre hn
      rw [ha1] at ha0
      cases ha0
      refine wpAny_Call_Name_kw (thn ((pe_var (pos := p1) (i := i) hNg zv hd hcd).run pinsZ sZ σZ HZ (fun v H1 => v = .ref f ∧ H1 = HZ) IZ ⟨.ref f, hu0, rfl, rfl⟩) fun w1 s1 ⟨v, H1, I1, rv, ev, eH⟩ => ?_)
      subst ev
      rw [eH] at I1
      obtain rfl : w1 = Value.ref f := rv
      refine PySem.W.callWith_F ⟨_, _, _, _, (I1.bs f _ hf).1⟩ ?_ hst (by rfl)
      rw [hst]
      refine Calls.spliced_cons (thn (he.run pinsZ s1 σZ HZ _ I1 (tG_bind hrl hen q)) fun w s2 ⟨x2, H2, I2, rx, r2, ih2, v2, pre2, hr2, hv2, q2⟩ => ?_)
      refine Calls.spliced_nil ⟨⟨_, _, _, _, (I2.bs f _ hf).1⟩, ?_⟩
      have fAt := (I2.bs f _ hf).1
      obtain ⟨⟨oc, vs, t, hoc, hdc, hvc⟩, _, _⟩ := I2.hok c' _ (hr2.cod _ hcs)
      dsimp only at q2
      cases z : lamB p ml env0 v2 ih2 with
      | exc cc ihc => rw [z] at q2; exact q2.elim
      | stuck => rw [z] at q2; exact q2.elim
      | ok v3 ih3 =>
        rw [z] at q2
        have e02 := I2.env0
        have e0 : Env0 X.prog X.w X.K X.mg X.base (X.A.deeper (envOfC qg sg s.heap.objs.size g cdg)) (envOfC qg sg s.heap.objs.size g cdg :: X.stack) s2 H2 := by
          have fb : ∀ L, base2.get? L = none → X.base.get? L = none := fun L z => by
            cases z1 : X.base.get? L with
            | none => rfl
            | some o =>
              rw [hb2 L o z1] at z
              cases z
          exact ⟨e02.frames, I.ok.mod, fun b o z => e02.bs b o (hb2 b o z), Nat.le_trans hz2 e02.bsz, funs_base e02.funs (fun L _ z => fb L z), e02.frf, e02.hok, e02.bare⟩
        have rc : codeAny (model X.prog X.w) (X.A.deeper (envOfC qg sg s.heap.objs.size g cdg)) (.call (.ref f) ⟨[w], []⟩) (CR (L2.CX X.prog X.w) (envOfC qg sg s.heap.objs.size g cdg :: X.stack) X.prog X.w H2 s2 Q XN) s2 := by
          refine PySem.W.kla_callFunE hr.depth fAt rfl L.nco L.ngn rfl ⟨c', oc, vs, t, rfl, hoc, hdc, hvc⟩ ?_
          rw [hbind w]
          refine wpAny_pure (wpAny_newFunctionEnv L.ncl (fun y hy => by rw [List.mem_singleton.mp hy]; exact L.par) (fun h₁ hns hsb => ⟨I2.nolimit.fresh _ hsb, ?_⟩) L.kd)
          show codeAny _ _ (.expr body (LamX.lamEnv X scope s2.heap.objs.size f c')) _ _
          have kp : ∀ d o, s2.heap.get? d = some o → h₁.get? d = some o := fun d o ed => hsb.extBut d o (Nat.ne_of_lt (Heap.lt_size ed)) (Heap.get?_push_of_some _ ed)
          have J := lam_enter (E := XN) (f := f) (c' := c') (tk := s2.toks + ([(b, w)] : List (Str × Value)).length) I L e0 hr.hd hN hp rx (fun z c v e1 ⟨o, e2, e3⟩ => ⟨⟨o, (I2.bs c o (hcl z c o e1 e2)).1, e3⟩, (I2.bs c o (hcl z c o e1 e2)).2⟩) hns kp
          have rd : tM X.K W0 ml (σ.set p (some x2)) H2 Q := ⟨r2, ih2, env0.set p (some v2), hr2, (he0.mono hr2.pre).set hv2 p, by
            show PGen R X.K W0 (σ.set p (some x2)) r2 (lamB p ml env0 v2 ih2) Q
            rw [z]
            exact q2⟩
          refine PySem.W.kla_codeExpr (wpAny_mono ((hbody _ _ s2 H2 (hr.deeper _)).run [] _ _ H2 Q J rd) (fun v s' hq => ?_) fun e' s' hq => hq)
          obtain ⟨w', H', J', rv', q'⟩ := hq
          exact ⟨w', H', J'.os, J'.bare, J'.base, J'.hok, rv', q'⟩
        refine wpAny_call (codeAny_mono rc fun res s' hq => ?_)
        cases res with
        | error e' => exact passes_call (E := XN) takes_none (fun _ _ _ _ h => h) pinsZ σZ H2 s2 e' s' I2 hq
        | ok fl =>
          cases fl with
          | ret u => exact I2.after hq
          | next => exact False.elim hq
          | brk => exact False.elim hq
          | cont => exact False.elim hq
    · exact q.elim
  · exact q.elim
end
theorem RO.stays {K : PySem.W.Frag} {r : List Addr} {H H2 : Hp} {a : Addr} {o : MO} (h : RO K r H a o) (e : LamX.ExtN H H2) : RO K r H2 a o := by
  cases o with
  | lst xs => obtain ⟨ys, h1, h2⟩ := h; exact ⟨ys, e _ _ h1 (fun ps z => nomatch z), h2⟩
  | tup xs => obtain ⟨ys, h1, h2⟩ := h; exact ⟨ys, e _ _ h1 (fun ps z => nomatch z), h2⟩
  | ro xs =>
    obtain ⟨ys, h1, h2⟩ := h
    rcases h1 with ⟨o, h1⟩ | h1
    · exact ⟨ys, .inl ⟨o, e _ _ h1 (fun ps z => nomatch z)⟩, h2⟩
    · exact ⟨ys, .inr h1, h2⟩
  | rot xs => exact h
  | dct => obtain ⟨kvs, h1⟩ := h; exact ⟨kvs, e _ _ h1 (fun ps z => nomatch z)⟩
  | dk kvs => obtain ⟨ys, h1, h2⟩ := h; exact ⟨ys, e _ _ h1 (fun ps z => nomatch z), h2⟩
  | clo => trivial
  | fn e' j =>
    intro D hD
    obtain ⟨c, h1, h2⟩ := h D hD
    exact ⟨c, e _ _ h1 (fun ps z => by unfold LamO at z; cases z), e _ _ h2 (fun ps z => by unfold LamX.CodeO at z; cases z)⟩
/-- the closure at f is an object of the mirror, too -/
theorem Rel.lam {K : PySem.W.Frag} {r : List Addr} {ih : IH} {H H2 : Hp} {f c' : Addr} {q : Str} (h : Rel K r ih H) (e : LamX.ExtN H H2) (t : LamX.Tabs TabT.T H2) (hc : H2 c' = some (LamX.CodeO c' q)) :
    @Rel _ ⟨r ++ [f], (c', q) :: LamT.cs, LamT.fn⟩ K (r ++ [f]) (ih ++ [.clo]) H2 := by
  have low : ∀ {n : Nat} {b : Addr} {o : MO}, (r ++ [f])[n]? = some b → (ih ++ [MO.clo])[n]? = some o → (r[n]? = some b ∧ ih[n]? = some o) ∨ o = .clo := fun {n b o} e1 e2 => by
    by_cases hn : n < r.length
    · rw [List.getElem?_append_left hn] at e1
      rw [List.getElem?_append_left (by rw [← h.len]; exact hn)] at e2
      exact .inl ⟨e1, e2⟩
    · right
      rw [List.getElem?_append_right (by rw [← h.len]; omega)] at e2
      cases hz : n - ih.length with
      | zero => rw [hz] at e2; exact (Option.some.inj e2).symm
      | succ j => rw [hz] at e2; cases e2
  refine @Rel.mk _ ⟨r ++ [f], (c', q) :: LamT.cs, LamT.fn⟩ _ _ _ _ (by rw [List.length_append, List.length_append, h.len]; rfl) (fun n a o e1 e2 => ?_) (fun n m a o u e1 e2 e3 e4 s1 s2 => ?_) t (pre_refl _) (fun p hp => ?_) (fun n e j g => ?_) (fun e j g => h.top e j (by rw [List.length_append] at g; omega))
  · rcases low e1 e2 with ⟨g1, g2⟩ | g
    · exact ((h.get n a o g1 g2).stays e).mono ⟨[f], rfl⟩
    · subst g
      trivial
  · rcases low e1 e3 with ⟨g1, g3⟩ | g
    · rcases low e2 e4 with ⟨g2, g4⟩ | g
      · exact h.inj n m a o u g1 g2 g3 g4 s1 s2
      · subst g
        cases s2
    · subst g
      cases s1
  · rcases List.mem_cons.mp hp with z | z
    · subst z
      exact hc
    · refine e _ _ (h.cod p z) fun ps y => ?_
      unfold LamX.CodeO at y
      cases y
  · by_cases hn : n < ih.length
    · rw [List.getElem?_append_left hn] at g
      exact h.ep n e j g
    · rw [List.getElem?_append_right (by omega)] at g
      cases hz : n - ih.length with
      | zero => rw [hz] at g; cases g
      | succ m => rw [hz] at g; cases g
theorem Rel.back {K : PySem.W.Frag} {r r' : List Addr} {ih' : IH} {H' : Hp} {f c' : Addr} {q : Str} (h : @Rel _ ⟨r ++ [f], (c', q) :: LamT.cs, LamT.fn⟩ K r' ih' H') (hp : LamT.r0 <+: r) : Rel K r' ih' H' := by
  obtain ⟨g1, g2, g3, g4, g5, g6, g7, g8⟩ := h
  exact ⟨g1, g2, g3, g4, hp.trans (pre_trans ⟨[f], rfl⟩ g5), fun p z => g6 p (List.mem_cons_of_mem _ z), g7, g8⟩
omit [LamT] in
/-- a def that is handed a lambda as its last argument -/
structure DfL (P : Program) (w : World) (K : PySem.W.Frag) (mg : Str → Option Value) (base : Heap) (k : Nat) (x : Str) (n N : Nat) (mb : Nat → (IV → IH → Res IV) → Env → IH → RS) : Prop where
  ex : ∃ (g : Addr) (qual : Str) (pg : Arguments) (bg : List Stmt) (sg : Scope) (dV kV doc pm cdv ct oc : Value) (an od : Option Addr) (osl : Array (Option Value)) (Ng ps : List Str) (a : Str),
    (ps.length = n + 1 ∧ Ng.length = N ∧ mg x = some (.ref g) ∧ PySem.W.keepIn K (.ref g) = true) ∧
    (K.lookup g = some ⟨oc, od, .func (PySem.W.fnOf x qual pg bg sg dV kV doc pm an cdv ct), osl⟩ ∧ PySem.W.codeIn K cdv qual = true ∧ Binds K (PySem.W.fnOf x qual pg bg sg dV kV doc pm an cdv ct) ps []) ∧
    (FnScope Ng ps sg ∧ Ng[n]? = some a ∧ Vis sg a ∧ (a == ("__debug__" : Str)) = false ∧ (a == ("__classdict__" : Str)) = false) ∧
    ∀ (I : LamT) (base2 : Heap) (A : Around) (outer : List PySem.Env) (s : Shared) (H : Hp) (m : Nat) (lam : IV → IH → Res IV), Room k (A.deeper (envOfC qual sg s.heap.objs.size g cdv)) →
      @ActOk _ I (cxOf (L2.CX P w) P w K mg base2 Ng qual sg g cdv A outer s H XN) n m a lam → PSs (cxOf (L2.CX P w) P w K mg base2 Ng qual sg g cdv A outer s H XN) bg (@tMS _ I K W0 (mb m lam))
section
variable {P : Program} {w : World} {K : PySem.W.Frag} {mg : Str → Option Value} {base : Heap} {k n : Nat} {x qual a : Str} {st : Stmt} {f : Addr} {fd : FuncData} {N ps : List Str}
omit [LamT] in
theorem dfL {mb : Nat → (IV → IH → Res IV) → Env → IH → RS} (F : FunD K x qual (defArgs st) (defBody st) (defScope st) [] [] f fd) (S : FnScope N ps (defScope st)) (hm : mg x = some (.ref f)) (hn : ps.length = n + 1) (ha : N[n]? = some a) (hv : Vis (defScope st) a)
    (h : ∀ (kV doc pm : Value) (an : Option Addr) (cdv ct : Value) (us : List Value), us.length = ps.length → bindArgs (PySem.W.fnOf x qual (defArgs st) (defBody st) (defScope st) .none kV doc pm an cdv ct) ⟨us, []⟩ = pure (ps.zip us))
    (hbody : ∀ (I : LamT) (base2 : Heap) (cdv : Value) (A : Around) (outer : List PySem.Env) (s : Shared) (H : Hp) (m : Nat) (lam : IV → IH → Res IV), Room k (cxOf (L2.CX P w) P w K mg base2 N qual (defScope st) f cdv A outer s H XN).A →
      Takes (cxOf (L2.CX P w) P w K mg base2 N qual (defScope st) f cdv A outer s H XN) W0 →
      PassesOwn (model P w) (cxOf (L2.CX P w) P w K mg base2 N qual (defScope st) f cdv A outer s H XN).A (cxOf (L2.CX P w) P w K mg base2 N qual (defScope st) f cdv A outer s H XN).env (cxOf (L2.CX P w) P w K mg base2 N qual (defScope st) f cdv A outer s H XN).xe →
      (cxOf (L2.CX P w) P w K mg base2 N qual (defScope st) f cdv A outer s H XN).A.units + 64 < cLine →
      @ActOk _ I (cxOf (L2.CX P w) P w K mg base2 N qual (defScope st) f cdv A outer s H XN) n m a lam → PSs (cxOf (L2.CX P w) P w K mg base2 N qual (defScope st) f cdv A outer s H XN) (defBody st) (@tMS _ I K W0 (mb m lam)))
    (hd : (a == ("__debug__" : Str)) = false := by decide) (hcd : (a == ("__classdict__" : Str)) = false := by decide) : DfL P w K mg base k x n N.length mb := by
  have hB := F.bindsN h
  obtain ⟨oc, od, dV, kV, doc, pm, an, cdv, ct, osl, rfl, lk, hc, hD, hK⟩ := F.ex
  exact ⟨f, qual, defArgs st, defBody st, defScope st, dV, kV, doc, pm, cdv, ct, oc, an, od, osl, N, ps, a, ⟨hn, rfl, hm, F.kp⟩, ⟨lk, hc, hB⟩, ⟨S, ha, hv, hd, hcd⟩, fun I base2 A outer s H m lam hr act => hbody I base2 cdv A outer s H m lam hr takes_none (passes_of rfl) (by
    have hu := hr.un
    show (A.deeper (envOfC qual (defScope st) s.heap.objs.size f cdv)).units + 64 < cLine
    omega) act⟩
/-- a def that makes lambdas: its code object is known -/
theorem df0M {c : Addr} {mb : Env → IH → RS} (F : FunD K x qual (defArgs st) (defBody st) (defScope st) [] [] f fd) (hc : fd.code = .ref c) (S : FnScope N ps (defScope st)) (hm : mg x = some (.ref f))
    (h : ∀ (kV doc pm : Value) (an : Option Addr) (cdv ct : Value) (us : List Value), us.length = ps.length → bindArgs (PySem.W.fnOf x qual (defArgs st) (defBody st) (defScope st) .none kV doc pm an cdv ct) ⟨us, []⟩ = pure (ps.zip us))
    (hbody : ∀ (A : Around) (outer : List PySem.Env) (s : Shared) (H : Hp) (E : XK), Room k (cxOf (L2.CX P w) P w K mg base N qual (defScope st) f (.ref c) A outer s H E).A →
      Takes (cxOf (L2.CX P w) P w K mg base N qual (defScope st) f (.ref c) A outer s H E) (fun cls d _ H => E cls d H) →
      PassesOwn (model P w) (cxOf (L2.CX P w) P w K mg base N qual (defScope st) f (.ref c) A outer s H E).A (cxOf (L2.CX P w) P w K mg base N qual (defScope st) f (.ref c) A outer s H E).env (cxOf (L2.CX P w) P w K mg base N qual (defScope st) f (.ref c) A outer s H E).xe →
      (cxOf (L2.CX P w) P w K mg base N qual (defScope st) f (.ref c) A outer s H E).A.units + 64 < cLine →
      PSs (cxOf (L2.CX P w) P w K mg base N qual (defScope st) f (.ref c) A outer s H E) (defBody st) (tMS K (fun cls d _ H => E cls d H) mb)) : Df P w K mg base (k + 1) x ps.length [] (defRun N.length mb) := by
  refine ⟨fun _ h => (nomatch h), f, fd, ps, rfl, hm, F.kp, ?_, fun j _ => ⟨[], by rw [List.drop_nil]; exact .nil, F.bindsN h⟩⟩
  obtain ⟨oc, od, dV, kV, doc, pm, an, cdv, ct, osl, rfl, lk, hcd, _, _⟩ := F.ex
  have hc' : cdv = .ref c := hc
  subst hc'
  refine fn_of lk hcd S (fun vs H Q E ⟨r, ih, args, e, _, rs, _⟩ => rs.length ▸ e) fun A outer s H vs Q E hr ⟨r, ih, args, e, hrel, rs, q⟩ => ⟨_, hbody A outer s H E hr (takes_of rfl rfl rfl rfl) (passes_of rfl) (by
    have hu := hr.un
    show (A.deeper (envOfC qual (defScope st) s.heap.objs.size f (.ref c))).units + 64 < cLine
    omega), r, ih, _, hrel, start_rel rs, ?_⟩
  unfold defRun at q
  cases z : mb (startI N.length args) ih with
  | ok fl ih2 =>
    rw [z] at q
    cases fl with
    | ret v => exact q
    | next env => exact fun r' H' σ' p hr' he' => q r' H' .non p hr' rfl
    | brk env => exact q.elim
    | cont env => exact q.elim
  | exc c env ih2 =>
    rw [z] at q
    exact fun r' H' σ' p hr' he' => q r' H' p hr'
  | stuck => rw [z] at q; exact q
end
/-- written arguments, one by one -/
inductive AL (X : Cx) (W : WX) : List Expr → (Env → IH → Res (List IV)) → Prop
  | nil : AL X W [] m_nil
  | cons {a : Expr} {es : List Expr} {ma : Env → IH → Res IV} {mr : Env → IH → Res (List IV)} (h : PE X a (tM X.K W ma)) (hs : ∀ rest, starEach (a :: rest) X.env = (false, eval a X.env) :: starEach rest X.env) (t : AL X W es mr) : AL X W (a :: es) (m_cons ma mr)
theorem AL.run {X : Cx} {W : WX} {es : List Expr} {m : Env → IH → Res (List IV)} (h : AL X W es m) {le : Expr} (hle : starEach [le] X.env = [(false, eval le X.env)]) : ∀ {pos : Pos} {pins : List (Addr × Obj)} {s : Shared} {σ : L2.St} {H : Hp} {r : List Addr} {ih : IH} {env : Env} {Q : List Value → Shared → Prop},
    L2.Inv X pins σ H s → Rel X.K r ih H → REnv r env σ → (match m env ih with
      | .ok vs ih1 => ∀ r1 H1 zs us s1, r <+: r1 → Rel X.K r1 ih1 H1 → Rs r1 vs zs → Vals zs us → L2.Inv X pins σ H1 s1 → wpAny (model X.prog X.w) X.A (eval le X.env) (fun w s2 => Q (us ++ [w]) s2) X.xe s1
      | .exc c ih1 => ∀ r1 H1, r <+: r1 → Rel X.K r1 ih1 H1 → W (.ref c) none σ H1
      | .stuck => False) → wpAny (model X.prog X.w) X.A (spliced (backTo pos (starEach (es ++ [le]) X.env))) Q X.xe s := by
  induction h with
  | nil =>
    intro pos pins s σ H r ih env Q I hr he k
    have k' : ∀ r1 H1 zs us s1, r <+: r1 → Rel X.K r1 ih H1 → Rs r1 [] zs → Vals zs us → L2.Inv X pins σ H1 s1 → wpAny (model X.prog X.w) X.A (eval le X.env) (fun w s2 => Q (us ++ [w]) s2) X.xe s1 := k
    rw [List.nil_append, hle]
    show wpAny _ _ (spliced [(false, eval le X.env)]) _ _ s
    exact Calls.spliced_cons (thn (k' r H [] [] s (pre_refl r) hr .nil .nil I) fun w s2 hq => Calls.spliced_nil hq)
  | @cons a es ma mr h hs t iht =>
    intro pos pins s σ H r ih env Q I hr he k
    rw [List.cons_append, hs]
    show wpAny _ _ (spliced ((false, eval a X.env) :: backTo pos (starEach (es ++ [le]) X.env))) _ _ s
    unfold m_cons at k
    have rd : tG R X.K W ma σ H (Got R X.K r fun r1 ih1 v => ∀ {s1 : Shared} {H1 : Hp} {w1 : Value} {x1 : V}, Rel X.K r1 ih1 H1 → R r1 v x1 → RelV x1 w1 → L2.Inv X pins σ H1 s1 → wpAny (model X.prog X.w) X.A (spliced (backTo pos (starEach (es ++ [le]) X.env))) (fun us s2 => Q (w1 :: us) s2) X.xe s1) := by
      refine ⟨r, ih, env, hr, he, ?_⟩
      cases e : ma env ih with
      | stuck => rw [e] at k; exact k
      | exc c ih1 => rw [e] at k; exact fun r1 H1 p1 q1 => k r1 H1 p1 q1
      | ok v ih1 =>
        rw [e] at k
        refine fun r1 H1 u p1 q1 hv => ⟨r1, ih1, v, p1, q1, hv, fun {s1 H1' w1 x1} hrel hv1 rv1 I1 => ?_⟩
        refine iht I1 hrel (he.mono p1) ?_
        have k2 := k
        simp only [Res.bind_ok] at k2
        cases e2 : mr env ih1 with
        | stuck => rw [e2] at k2; exact k2
        | exc c ih2 => rw [e2] at k2; exact fun r2 H2 p2 q2 => k2 r2 H2 (pre_trans p1 p2) q2
        | ok vs ih2 =>
          rw [e2] at k2
          exact fun r2 H2 zs us s2 p2 q2 hvs rvs I2 => k2 r2 H2 (x1 :: zs) (w1 :: us) s2 (pre_trans p1 p2) q2 (.cons (hv1.mono p2) hvs) (.cons rv1 rvs) I2
    refine Calls.spliced_cons (thn (h.run pins s σ H _ I rd) fun w1 s1 ⟨x1, H1, I1, rv1, r1, ih1, v, p1, hr1, hv1, q1⟩ => q1 hr1 hv1 rv1 I1)
section
variable {X : Cx} {W : WX} {k n N p : Nat} {x b : Str} {mb : Nat → (IV → IH → Res IV) → Env → IH → RS} {es : List Expr} {ma : Env → IH → Res (List IV)} {ml : Env → IH → Res IV} {params : Arguments} {body : Expr} {scope : Scope} {np lpos pos : Pos} {c P : Addr}
/-- what the making of a lambda asks of its maker -/
structure MkL (base : Heap) (mg : Str → Option Value) (c P : Addr) (q : Str) : Prop where
  tb : LamX.TabB base mg c P
  mem : (P, q) ∈ TabT.T
  one : ∀ z ∈ TabT.T, z.1 = P → z.2 = q
theorem lm_callL (D : DfL X.prog X.w X.K X.mg X.base (k + 1) x n N mb) (hr : Room (k + 2) X.A) (hg : Gl X x) (ha : AL X W es ma) (tk : Takes X W) (M : MkL X.base X.mg c P (X.env.qual ++ "<lambda>")) (hcode : X.env.code = .ref c) (L : LamP X.env.scope scope b) (hN : X.N.Nodup) (hp : X.N[p]? = some b)
    (hdef : defaultsOf params X.env = ([], [])) (hbind : ∀ (q : Str) (cl : List (Str × Addr)) (pm cv ctv v : Value), bindArgs (PySem.W.kla_fn "<lambda>" q params body scope cl pm cv ctv) ⟨[v], []⟩ = pure [(b, v)]) (hen : es.length = n)
    (hlam : ∀ (I : LamT) (A : Around) (outer : List PySem.Env) (s : Shared) (H : Hp) (f c' : Addr), Room k (A.deeper (LamX.lamEnv X scope s.heap.objs.size f c')) → PE (LamX.lamCx X A outer s H XN scope f c') body (@tM _ I X.K W0 ml))
    (hfnA : ∀ z, X.fn z = true := by intro _; rfl) (hle : starEach [.Lambda params body scope lpos] X.env = [(false, eval (.Lambda params body scope lpos) X.env)] := by rfl) (hdb : (x == ("__debug__" : Str)) = false := by decide)
    (hpl : ∀ {first : Expr} {rest : List Expr}, es ++ [.Lambda params body scope lpos] = first :: rest → starEach (first :: rest) X.env = (false, eval first X.env) :: starEach rest X.env ∧ (backTo pos (starEach rest X.env)).any (·.1) = false) :
    PE X (.Call (.Name x np) (es ++ [.Lambda params body scope lpos]) [] pos) (tM X.K W (m_callL (fun m lam => defRun N (mb m lam)) (lamB p ml) ma)) := by
  obtain ⟨g, qual, pg, bg, sg, dV, kV, doc, pm, cdv, ct, oc, an, od, osl, Ng, ps, a, ⟨hps, hNg, hm, hk⟩, ⟨lk, hcd, hB⟩, ⟨Sg, hNa, hva, hda, hca⟩, hbody⟩ := D.ex
  refine ⟨fun pins s σ H Q I ⟨r, ih, env, hrl, he, q⟩ => ?_⟩
  refine wpAny_Call_Name_kw (ld_glob I hg hm ?_ hdb)
  obtain ⟨first, rest, hfr⟩ : ∃ first rest, es ++ [Expr.Lambda params body scope lpos] = first :: rest := by
    cases es with
    | nil => exact ⟨_, _, rfl⟩
    | cons e es => exact ⟨_, _, rfl⟩
  obtain ⟨hs1, hs2⟩ := hpl hfr
  have run := ha.run hle (pos := pos) (Q := fun us s1 => X.K.In s1.heap ∧ wpAny (model X.prog X.w) X.A (call (.ref g) us) (EP X pins σ Q) X.xe s1) I hrl he ?_
  · rw [hfr] at run ⊢
    exact PySem.W.callWith_K (h₀ := X.base) I.ok.mod.kin hk run hs1 hs2
  unfold m_callL at q
  cases em : ma env ih with
  | stuck => rw [em] at q; exact q.elim
  | exc cc ih1 => rw [em] at q; exact fun r1 H1 p1 q1 => q r1 H1 p1 q1
  | ok vs ih1 =>
    rw [em] at q
    simp only [Res.bind_ok] at q
    intro r1 H1 zs us s1 p1 hr1 hvs rvs I1
    refine LamX.lam_make2 I1 M.tb hcode M.mem M.one hr1.tab hdef (L.has I.ok) fun f c' pm' ctv H2 s2 I2 eN T2 hf hfn hfo hco => ⟨I2.kIn, ?_⟩
    have hrel := hr1.lam (f := f) eN T2 hco
    have hnf : (r1 ++ [f])[ih1.length]? = some f := by
      rw [← hr1.len, List.getElem?_append_right (Nat.le_refl _), Nat.sub_self]
      rfl
    have lus : (us ++ [Value.ref f]).length = ps.length := by
      rw [List.length_append, hps, ← rvs.length, ← hvs.length, ← hen]
      have : vs.length = es.length := by
        have key : ∀ {es : List Expr} {ma : Env → IH → Res (List IV)}, AL X W es ma → ∀ {env : Env} {ih ih1 : IH} {vs : List IV}, ma env ih = .ok vs ih1 → vs.length = es.length := by
          intro es ma h
          induction h with
          | nil => intro env ih ih1 vs e; cases e; rfl
          | @cons a es ma mr h hs t iht =>
            intro env ih ih1 vs e
            unfold m_cons at e
            cases e1 : ma env ih with
            | stuck => rw [e1] at e; cases e
            | exc c ih2 => rw [e1] at e; cases e
            | ok v ih2 =>
              rw [e1] at e
              simp only [Res.bind_ok] at e
              cases e2 : mr env ih2 with
              | stuck => rw [e2] at e; cases e
              | exc c ih3 => rw [e2] at e; cases e
              | ok ws ih3 =>
                rw [e2] at e
                simp only [Res.bind_ok] at e
                cases e
                rw [List.length_cons, List.length_cons, iht e2]
        exact key ha em
      rw [this]
      rfl
    obtain ⟨PK, hPK⟩ : ∃ P : Addr → Prop, P = fun b => (∃ o, X.base.get? b = some o) ∨ b = f ∨ ∃ z, X.env.cells.lookup z = some b := ⟨_, rfl⟩
    have pk1 : ∀ b o, X.base.get? b = some o → PK b := fun b o z => by rw [hPK]; exact .inl ⟨o, z⟩
    have pk2 : PK f := by rw [hPK]; exact .inr (.inl rfl)
    have pk3 : ∀ z c, X.env.cells.lookup z = some c → PK c := fun z c e => by rw [hPK]; exact .inr (.inr ⟨z, e⟩)
    have hb2 : ∀ b o, X.base.get? b = some o → (keepH s2.heap PK).get? b = some o := fun b o z => by rw [keepH_in (pk1 b o z)]; exact I2.bk b o z
    have e02 : Env0 X.prog X.w X.K X.mg (keepH s2.heap PK) X.A X.stack s2 H2 := by
      have e0 := I2.env0
      refine ⟨e0.frames, mod_keeps e0.mod hb2, fun b o z => ?_, Nat.le_of_eq keepH_size, funs_base e0.funs fun L hL hn => ?_, e0.frf, e0.hok, e0.bare⟩
      · obtain ⟨z1, z2⟩ := keepH_sub z
        refine ⟨z2, ?_⟩
        rw [hPK] at z1
        rcases z1 with ⟨o', z1⟩ | z1 | ⟨y, z1⟩
        · exact (e0.bs b o' z1).2
        · rw [z1]; exact hfn
        · exact I2.freeC y b z1
      · refine keepH_out fun z1 => ?_
        rw [hPK] at z1
        rcases z1 with ⟨o', z1⟩ | z1 | ⟨y, z1⟩
        · rw [hn] at z1; cases z1
        · rw [z1] at hL; exact hfo hL
        · rcases List.mem_cons.mp (I2.stkSub L hL) with z2 | z2
          · exact I2.cne y L z1 z2
          · obtain ⟨_, o, ho, _⟩ := I2.ok.funs.mem z2
            exact absurd (Nat.lt_of_lt_of_le (Heap.lt_size ho) (I2.ok.cab y L (hfnA y) z1)) (Nat.lt_irrefl _)
    have rc : codeAny (model X.prog X.w) X.A (.call (.ref g) ⟨us ++ [.ref f], []⟩) (CR (L2.CX X.prog X.w) X.stack X.prog X.w H2 s2 Q XN) s2 := by
      refine LamX.run_ofS (N := Ng) (ps := ps) (us := us ++ [.ref f]) (vs := zs ++ [.ref f]) lk hcd Sg hr e02 (by have hb := hB s2 (us ++ [.ref f]) I2.kIn (by rw [List.append_nil]; exact lus); rw [List.append_nil] at hb; exact hb) (rvs.append (.cons (show RelV (.ref f) (.ref f) from rfl) .nil)) (by rw [List.length_append, rvs.length]; rw [List.length_append] at lus; exact lus) fun hr' => ?_
      have act := @act_ok _ ⟨r1 ++ [f], (c', X.env.qual ++ "<lambda>") :: LamT.cs, LamT.fn⟩ X pins σ H2 s2 (keepH s2.heap PK) Ng qual sg g f c' cdv pm' ctv params body scope k n ih1.length p a b ml env I2 L hN hp (he.mono (pre_trans p1 ⟨[f], rfl⟩)) hnf List.mem_cons_self (by rw [keepH_in pk2]; exact hf) (fun z c o e1 e2 => by rw [keepH_in (pk3 z c e1)]; exact e2) hb2 (by rw [keepH_size]; exact Nat.le_trans I2.ok.bsz I2.sz) (hbind _ _ _ _ _) hr'
        (fun A outer s' H' hr2 => hlam _ A outer s' H' f c' hr2) hNa hda hca
      refine ⟨_, hbody ⟨r1 ++ [f], (c', X.env.qual ++ "<lambda>") :: LamT.cs, LamT.fn⟩ (keepH s2.heap PK) X.A X.stack s2 H2 ih1.length (lamB p ml env) hr' act, r1 ++ [f], ih1 ++ [.clo], startI N (vs ++ [.ref ih1.length]), hrel, ?_, ?_⟩
      · rw [← hNg]
        exact start_rel ((hvs.mono ⟨[f], rfl⟩).append (.cons ⟨f, hnf, rfl⟩ .nil))
      · unfold defRun at q
        cases z : mb ih1.length (lamB p ml env) (startI N (vs ++ [.ref ih1.length])) (ih1 ++ [.clo]) with
        | stuck => rw [z] at q; exact q
        | exc cc env2 ih2 => rw [z] at q; exact q.elim
        | ok fl ih2 =>
          rw [z] at q
          cases fl with
          | ret v => exact fun r' H' u p' hr' hv' => q r' H' u (pre_trans p1 (pre_trans ⟨[f], rfl⟩ p')) (hr'.back hr1.pre) hv'
          | next env2 => exact fun r' H' σ' p' hr' he' => q r' H' .non (pre_trans p1 (pre_trans ⟨[f], rfl⟩ p')) (hr'.back hr1.pre) rfl
          | brk env2 => exact q.elim
          | cont env2 => exact q.elim
    have hx : Passes (L2.CX X.prog X.w) X XN := passes_call tk fun _ _ _ _ h => h.elim
    refine wpAny_call (codeAny_mono rc fun res s' hq => ?_)
    cases res with
    | error e' => exact hx pins σ H2 s2 e' s' I2 hq
    | ok fl =>
      cases fl with
      | ret u => exact I2.after hq
      | next => exact False.elim hq
      | brk => exact False.elim hq
      | cont => exact False.elim hq
end
end L3
/-! L3r: the law's promise, where tables of code objects are about. -/
namespace L3
variable [TabT] [LamT]
open PySem PySem.Spec PyProof.Rows L2

/-- the law's promise: True of every script; the tables at Ps are empty at first -/
def spLawT (K : PySem.W.Frag) (Ps : List Addr) : Sp := fun vs H Q _ => ∃ (a : Addr) (ns : List Int), vs = [.ref a] ∧ ns.length ≤ 63 ∧ (∀ z ∈ ns, Builtin.Int.intBits z ≤ 1048576) ∧ (∀ P ∈ Ps, H P = some (.tbl #[])) ∧ SqL K H a (ns.map V.int) ∧ ∀ H', Q (.bl true) H'
section
variable {P : Program} {w : World} {K : PySem.W.Frag} {mg : Str → Option Value} {base : Heap} {k : Nat} {f a : Addr} {fd : FuncData} {m : List IV → IH → Res IV} {H : Hp} {ys : List V} {o : Obj} {Ps : List Addr}
theorem frz_env {A : Around} {outer : List PySem.Env} {s : Shared} (e0 : Env0 P w K mg base A outer s H) (h : H a = some (.lst ys)) (ho : s.heap.get? a = some o) : Env0 P w K mg base A outer s (upd H a (.frz o (.lst ys))) := by
  have off : ∀ {b : Addr}, H b = none → b ≠ a := fun {b} e z => by rw [z, h] at e; cases e
  refine ⟨e0.frames, e0.mod, fun b u e => ⟨(e0.bs b u e).1, (upd_ne (off (e0.bs b u e).2)).trans (e0.bs b u e).2⟩, e0.bsz, e0.funs, fun b e => (upd_ne (off (e0.frf b e))).trans (e0.frf b e), fun b u e => ?_, e0.bare⟩
  have own : ∀ {c d : Addr}, H c = some (.own d) → upd H a (.frz o (.lst ys)) c = some (.own d) := fun {c d} z => (upd_ne (ne_of z h fun y => nomatch y)).trans z
  have tup : ∀ {c : Addr} {xs : List V}, H c = some (.tup xs) → upd H a (.frz o (.lst ys)) c = some (.tup xs) := fun {c xs} z => (upd_ne (ne_of z h fun y => nomatch y)).trans z
  by_cases hb : b = a
  · subst hb
    rw [upd_same] at e
    cases e
    exact ⟨ho, (e0.hok b _ h).stay (fun _ _ _ q => q) (fun _ q => own q) fun _ _ q => tup q⟩
  · rw [upd_ne hb] at e
    exact (e0.hok b u e).stay (fun _ _ _ q => q) (fun _ q => own q) fun _ _ q => tup q
theorem frz_back {outer : List PySem.Env} {s s' : Shared} {Q : VK} {u : Value} (h : H a = some (.lst ys)) (e : CE outer P w (upd H a (.frz o (.lst ys))) s Q u s') : CE outer P w H s Q u s' := by
  obtain ⟨v, H', os, bare, un, hok, rv, q⟩ := e
  have off : ∀ {b : Addr}, H b = none → upd H a (.frz o (.lst ys)) b = none := fun {b} e => (upd_ne (fun z => by rw [z, h] at e; cases e)).trans e
  refine ⟨v, H', os, bare, ⟨fun b x g n => un.keep b x g (off n), fun b x g n => un.slot b x g (off n), fun b x g n => un.free b x g (off n), un.there, fun b xs z => ?_, fun b x y z => ?_, fun b ps z => ?_⟩, hok, rv, q⟩
  · exact un.tups b xs ((upd_ne (ne_of z h fun y => nomatch y)).trans z)
  · exact un.frzs b x y ((upd_ne (ne_of z h fun y => nomatch y)).trans z)
  · exact un.tbls b ps ((upd_ne (ne_of z h fun y => nomatch y)).trans z)
/-- the mirror's heap at the law's start -/
theorem rel_law {ns : List Int} (hr0 : LamT.r0 = [] ∧ LamT.cs = [] ∧ ∀ e j, LamT.fn e j = none) (hT : ∀ p ∈ TabT.T, H p.1 = some (.tbl #[])) (h : (∃ o, H a = some (.frz o (.lst (ns.map V.int)))) ∨ SqL K (fun _ => none) a (ns.map V.int)) : Rel K [a] [.ro (ns.map IV.int)] H := by
  refine ⟨rfl, fun n b o e1 e2 => ?_, fun n k b o u e1 e2 e3 e4 s1 s2 => ?_, fun p hp => LamX.TabS.nil (hT p hp), (by rw [hr0.1]; exact List.nil_prefix), (by rw [hr0.2.1]; exact fun p hp => nomatch hp), (fun n e j g => by
    cases n with
    | zero => cases g
    | succ n => cases g), (fun e j _ => hr0.2.2 e j)⟩
  · cases n with
    | succ n => cases e1
    | zero =>
      cases e1
      cases e2
      exact ⟨ns.map V.int, h, Rs.flats_mk (f := IV.int) (g := V.int) (fun _ => rfl) ns⟩
  · cases n with
    | succ n => cases e1
    | zero =>
      cases e3
      cases s1
theorem fn_lawT (hr0 : LamT.r0 = [] ∧ LamT.cs = [] ∧ ∀ e j, LamT.fn e j = none) (hP : ∀ p ∈ TabT.T, p.1 ∈ Ps) (F : FnOk P w K mg base (L2.CX P w) k f fd ["script"] (spM K 1 m))
    (h : ∀ ns : List Int, ns.length ≤ 63 → (∀ z ∈ ns, Builtin.Int.intBits z ≤ 1048576) → ∃ ih, m [.ref 0] [.ro (ns.map IV.int)] = .ok (.bl true) ih) : FnOk P w K mg base (L2.CX P w) k f fd ["script"] (spLawT K Ps) := by
  refine ⟨fun vs H Q E ⟨a, ns, e, _⟩ => by rw [e]; rfl, fun A outer s H args us vs Q E hr e0 hb hv ⟨a, ns, e, h1, h2, hT, hS, q⟩ => ?_⟩
  subst e
  obtain ⟨ih, hm⟩ := h ns h1 h2
  have sp : ∀ {H2 : Hp}, (∀ p ∈ TabT.T, H2 p.1 = some (.tbl #[])) → ((∃ o, H2 a = some (.frz o (.lst (ns.map V.int)))) ∨ SqL K (fun _ => none) a (ns.map V.int)) → spM K 1 m [.ref a] H2 Q XN := fun {H2} t z =>
    ⟨[a], _, [.ref 0], rfl, rel_law hr0 t z, .cons ⟨a, rfl, rfl⟩ .nil, by
      rw [hm]
      exact fun r' H' u p hr hv => by
        obtain rfl : u = .bl true := hv
        exact q H'⟩
  have noX : ∀ {H2 : Hp} {e : Value} {s' : Shared}, L2.CX P w outer H2 s XN e s' → False := fun {H2 e s'} z => by
    obtain ⟨_, _, _, _, _, _, _, _, _, _, _, _, z⟩ := z
    exact z
  have conv : ∀ {H2 : Hp} {r : Result} {s' : Shared}, (∀ {u : Value} {s' : Shared}, CE outer P w H2 s Q u s' → CE outer P w H s Q u s') → CR (L2.CX P w) outer P w H2 s Q XN r s' → CR (L2.CX P w) outer P w H s Q E r s' := fun {H2 r s'} c z => by
    cases r with
    | error e => exact (noX z).elim
    | ok fl =>
      cases fl with
      | ret u => exact c z
      | next => exact z
      | brk => exact z
      | cont => exact z
  have hT' : ∀ p ∈ TabT.T, H p.1 = some (.tbl #[]) := fun p hp => hT _ (hP p hp)
  rcases hS with (z | z) | z
  · obtain ⟨zl, its, n, rv, ho⟩ := e0.hok a _ z
    exact codeAny_mono (F.run A outer s _ args us _ Q XN hr (frz_env e0 z ho) hb hv (sp (fun p hp => (upd_ne (ne_of (hT' p hp) z fun y => nomatch y)).trans (hT' p hp)) (.inl ⟨_, upd_same⟩))) fun r s' hq => conv (fun {u s'} c => frz_back z c) hq
  · exact codeAny_mono (F.run A outer s H args us _ Q XN hr e0 hb hv (sp hT' (.inl z))) fun r s' hq => conv (fun {u s'} c => c) hq
  · exact codeAny_mono (F.run A outer s H args us _ Q XN hr e0 hb hv (sp hT' (.inr (.inr z)))) fun r s' hq => conv (fun {u s'} c => c) hq
end
end L3
/-! L3s: min(xs, default=None). -/
namespace L3
variable [TabT] [LamT]
open PySem PySem.Spec PyProof.Rows L2

def f_minD (x : IV) (ih : IH) : Res IV := match x with
  | .ref n => match ih[n]? with
    | some (.lst xs) => match ints? xs with
      | some [] => .ok .non ih
      | some (a :: r) => .ok (.int (minI (a :: r))) ih
      | none => .stuck
    | _ => .stuck
  | _ => .stuck
theorem foldl_minI (a : Int) : ∀ r : List Int, r.foldl min a = minI (a :: r)
  | [] => rfl
  | b :: r => by
    rw [List.foldl_cons, foldl_minI]
    cases r with
    | nil => rfl
    | cons c r =>
      show min (min a b) (minI (c :: r)) = min a (min b (minI (c :: r)))
      omega
theorem reads_intsD {h : Heap} : ∀ {its : List Value} {ns : List Int}, Vals (ns.map V.int) its → ReadsAll h its (ns.map PyData.int) []
  | its, [], r => by cases r; exact .nil
  | its, n :: ns, r => by
    cases r with
    | cons a b =>
      obtain ⟨t, rfl⟩ := a
      exact .cons (.int n t) (reads_intsD b)
theorem alike_intsD (ns : List Int) : PySem.W.AlikeAll (ns.map PyData.int) := by
  refine ⟨fun x hx y hy => ?_, fun x hx e => ?_⟩
  · obtain ⟨a, _, rfl⟩ := List.mem_map.mp hx
    obtain ⟨b, _, rfl⟩ := List.mem_map.mp hy
    rfl
  · obtain ⟨a, _, rfl⟩ := List.mem_map.mp hx
    cases e
theorem depth_intsD : ∀ ns : List Int, PyData.depthAll (ns.map PyData.int) ≤ 2
  | [] => by decide
  | n :: ns => by
    have h := depth_intsD ns
    show max (PyData.depth (.int n)) (PyData.depthAll (ns.map PyData.int)) ≤ 2
    have h2 : PyData.depth (.int n) ≤ 2 := by unfold PyData.depth; decide
    omega
section
variable {X : Cx} {W : WX} {e : Expr} {ma : Env → IH → Res IV} {p pos kpos cpos : Pos} {j : Nat}
theorem lm_minD (hc : X.calm = true) (hu : X.A.units + 64 < cLine) (hg : Gl X "min") (hm : X.mg "min" = none) (h : PE X e (tM X.K W ma)) (hs : starEach [e] X.env = [(false, eval e X.env)] := by rfl) :
    PE X (.Call (.Name "min" p) [e] [⟨some "default", .Constant .none j cpos, kpos⟩] pos) (tM X.K W (m_un f_minD ma)) := by
  refine PE.of ⟨fun pins s σ H Q I q => ?_⟩ fun σ H Q h => h
  obtain ⟨r, ih, env, hr, he, q⟩ := q
  refine wpAny_Call_Name_kw (ld_blt I hg hm rfl ?_)
  refine callWith_kw ?_ (by rw [hs]; rfl) (by rw [hs]; rfl)
  rw [hs]
  refine Calls.spliced_cons (thn (h.run pins s σ H _ I (tG_bind hr he q)) fun u s1 ⟨x, H1, I1, rx, r1, ih1, v, p1, hr1, hv, q1⟩ => ?_)
  refine Calls.spliced_nil ?_
  refine thn ((pk_cons (X := X) (nm := some "default") (kpos := kpos) (pe_non (X := X)) pk_nil).run pos pins s1 σ H1 (fun vs H2 => vs = [.non] ∧ H2 = H1) I1 ⟨rfl, rfl⟩) fun us s2 ⟨vs, H2, I2, rv, e1, e2⟩ => ?_
  subst e1 e2
  obtain ⟨w, rfl⟩ : ∃ w, us = [w] := by
    cases rv with
    | cons a b => cases b; exact ⟨_, rfl⟩
  have hw : w = Value.none := by
    cases rv with
    | cons a b => exact a
  subst hw
  dsimp only at q1
  unfold f_minD at q1
  split at q1
  · rename_i n
    obtain ⟨a, ea, hx⟩ := hv
    subst hx
    obtain rfl : u = Value.ref a := rx
    split at q1
    · rename_i xs e3
      split at q1
      · rename_i e4
        obtain ⟨ys, h3, h4⟩ := hr1.get n a _ ea e3
        rw [ints?_of e4] at h4
        have hy := h4.flats fun _ _ => IV.noConfusion
        subst hy
        obtain ⟨its, rvs, hl, _⟩ := I2.list (.inl (.inl h3))
        exact PySem.W.min_list_default (I2.ok.hd hc) hl.isList (reads_intsD (ns := []) rvs) (alike_intsD []) (by have := depth_intsD []; omega) (fun _ h' tk hk => ⟨.non, H2, I2.kept hk, rfl, tG_end q1 hr1 rfl⟩) fun y ys i v h' tk bs z => by cases z
      · rename_i a0 r0 e4
        obtain ⟨ys, h3, h4⟩ := hr1.get n a _ ea e3
        rw [ints?_of e4] at h4
        have hy := h4.flats fun _ _ => IV.noConfusion
        subst hy
        obtain ⟨its, rvs, hl, _⟩ := I2.list (.inl (.inl h3))
        refine PySem.W.min_list_default (I2.ok.hd hc) hl.isList (reads_intsD (ns := a0 :: r0) rvs) (alike_intsD (a0 :: r0)) (by have := depth_intsD (a0 :: r0); omega) (fun z => by cases z) fun y ys i v h' tk bs z hi hrd hk => ?_
        cases z
        rw [PySem.W.minD_ints, foldl_minI] at hrd
        cases hrd with
        | int _ t => exact ⟨.int _, H2, I2.kept hk, ⟨_, rfl⟩, tG_end q1 hr1 rfl⟩
      · exact q1.elim
    · exact q1.elim
  · exact q1.elim
end
end L3
/-! L3t: an or of a whole number or None. -/
namespace L3
variable [TabT] [LamT]
open PySem PySem.Spec PyProof.Rows L2

def m_orI (ma mb : Env → IH → Res IV) (env : Env) (ih : IH) : Res IV := (ma env ih).bind fun v ih1 => match v with
  | .int i => if i = 0 then mb env ih1 else .ok (.int i) ih1
  | .non => mb env ih1
  | _ => .stuck
section
variable {X : Cx} {a b : Expr} {rest : List Expr} {pos : Pos} {ta tb : TE}
def tOrI (ta tb : TE) : TE := fun σ H Q => ta σ H fun x H1 => (∃ i, x = .int i ∧ if i = 0 then tb σ H1 Q else Q (.int i) H1) ∨ (x = .non ∧ tb σ H1 Q)
theorem pe_orI (ha : PE X a ta) (hb : PE X (.BoolOp .Or (b :: rest) pos) tb) : PE X (.BoolOp .Or (a :: b :: rest) pos) (tOrI ta tb) := by
  refine ⟨fun pins s σ H Q I h => ?_⟩
  refine BoolOp_or (thn (ha.run pins s σ H _ I h) fun v s1 ⟨x, H1, I1, r1, q1⟩ => ?_)
  rcases q1 with ⟨i, rfl, q1⟩ | ⟨rfl, q1⟩
  · obtain ⟨t, rfl⟩ := r1
    refine P.truthy_int ?_
    by_cases hi : i = 0
    · rw [if_pos hi] at q1
      rw [show (i != 0) = false by simp [hi]]
      exact hb.run pins s1 σ H1 Q I1 q1
    · rw [if_neg hi] at q1
      rw [show (i != 0) = true by simp [hi]]
      exact ⟨.int i, H1, I1, ⟨_, rfl⟩, q1⟩
  · cases r1
    refine truthy_none ?_
    exact hb.run pins s1 σ H1 Q I1 q1
end
section
variable {X : Cx} {W : WX} {a b : Expr} {rest : List Expr} {pos : Pos} {ma mb : Env → IH → Res IV}
theorem lm_orI (ha : PE X a (tM X.K W ma)) (hb : PE X (.BoolOp .Or (b :: rest) pos) (tM X.K W mb)) : PE X (.BoolOp .Or (a :: b :: rest) pos) (tM X.K W (m_orI ma mb)) :=
  PE.of (pe_orI ha hb) fun σ H Q ⟨r, ih, env, hr, he, q⟩ => tG.imp (tG_bind hr he q) fun u H1 ⟨r1, ih1, v, p, hr1, hv, q1⟩ => by
    cases v with
    | int i =>
      obtain rfl : u = .int i := hv
      refine .inl ⟨i, rfl, ?_⟩
      dsimp only at q1
      split at q1
      · rename_i h
        rw [if_pos h]
        exact ⟨r1, ih1, env, hr1, he.mono p, q1⟩
      · rename_i h
        rw [if_neg h]
        exact tG_end q1 hr1 rfl
    | non =>
      obtain rfl : u = .non := hv
      exact .inr ⟨rfl, ⟨r1, ih1, env, hr1, he.mono p, q1⟩⟩
    | _ => exact q1.elim
end
/-! ### min of a tuple of whole numbers -/
def f_minT (xs : List IV) (ih : IH) : Res IV := match xs with
  | [.ref n] => match ih[n]? with
    | some (.tup ys) => match ints? ys with
      | some (a :: r) => .ok (.int (minI (a :: r))) ih
      | _ => .stuck
    | _ => .stuck
  | _ => .stuck
def rMinT (K : PySem.W.Frag) : List V → Hp → VK → Prop := fun vs H Q => ∃ (a : Addr) (n : Int) (ns : List Int), vs = [V.ref a] ∧ SqT K H a ((n :: ns).map V.int) ∧ Q (.int (minI (n :: ns))) H
section
variable {X : Cx} {K : PySem.W.Frag} {W : WX}
theorem cr_minT (hc : X.calm = true) (hu : X.A.units + 64 < cLine) : CallR X (.builtin "min") (rMinT X.K) := by
  intro pins s σ H vs us Q I r h
  obtain ⟨a, n, ns, rfl, hs, q⟩ := h
  obtain ⟨its, rv, hl, _⟩ := I.tuple hs
  rw [Vals.ref1 r]
  refine PySem.W.min_tuple_data (I.ok.hd hc) (show s.heap.IsTuple a its.toArray from hl) (reads_intsD (ns := n :: ns) rv) (alike_intsD (n :: ns)) (by have := depth_intsD (n :: ns); show X.A.units + 1 + PyData.depthAll ((n :: ns).map PyData.int) < cLine; omega) fun i v h' tk bs hi hrd hk => ?_
  rw [PySem.W.minD_ints, foldl_minI] at hrd
  cases hrd with
  | int _ t => exact ⟨.int _, H, I.kept hk, ⟨_, rfl⟩, q⟩
theorem s_minT : SndC K W (rMinT K) f_minT := fun r ih H xs us σ Q hr hx q => by
  unfold f_minT at q
  split at q
  · rename_i n
    obtain ⟨b, rfl, hb⟩ : ∃ b, us = [V.ref b] ∧ r[n]? = some b := by
      cases hx with
      | cons h1 h2 =>
        cases h2
        obtain ⟨a, ea, rfl⟩ := h1.ref
        exact ⟨a, rfl, ea⟩
    split at q
    · rename_i ys e1
      split at q
      · rename_i a0 r0 e4
        obtain ⟨zs, h3, h4⟩ := hr.get n b _ hb e1
        rw [ints?_of e4] at h4
        have hy := h4.flats fun _ _ => IV.noConfusion
        subst hy
        exact ⟨b, a0, r0, rfl, .inl (.inl h3), tG_end q hr rfl⟩
      · exact q.elim
    · exact q.elim
  · exact q.elim
end
end L3
/-! L3u: dicts by their keys. -/
namespace L3
variable [TabT] [LamT]
open PySem PySem.Spec PyProof.Rows L2
theorem hu1 {A : Around} (h : A.units + 64 < cLine) : A.units + 1 < cLine := by omega
def keyM : IV → Option Key
  | .int i => some (.inl i)
  | .str x => some (.inr x)
  | _ => none
def getM (kvs : List (Key × IV)) (k : Key) : Option IV := (kvs.find? fun kv => decide (kv.1 = k)).map (·.2)
def putM (kvs : List (Key × IV)) (k : Key) (v : IV) : List (Key × IV) :=
  if (kvs.any fun kv => decide (kv.1 = k)) = true then kvs.map fun kv => if kv.1 = k then (kv.1, v) else kv else kvs ++ [(k, v)]
theorem keyM_kV {r : List Addr} {x : IV} {y : V} {k : Key} (h : R r x y) (e : keyM x = some k) : y = L2.kV k := by
  cases x with
  | int i => cases e; exact h
  | str z => cases e; exact h
  | _ => cases e
theorem RK.val {r : List Addr} {kvs : List (Key × IV)} {ys : List (Key × V)} (h : RK r kvs ys) (k : Key) : (getM kvs k = none ∧ valV ys k = none) ∨ ∃ v u, getM kvs k = some v ∧ valV ys k = some u ∧ R r v u := by
  unfold RK at h
  induction h with
  | nil => exact .inl ⟨rfl, rfl⟩
  | @cons p q ps qs h t ih =>
    obtain ⟨h1, h2⟩ := h
    by_cases e : p.1 = k
    · refine .inr ⟨p.2, q.2, ?_, valV_pos (h1.symm.trans e), h2⟩
      unfold getM
      rw [List.find?_cons, decide_eq_true e]
      rfl
    · have e2 : getM (p :: ps) k = getM ps k := by
        unfold getM
        rw [List.find?_cons, decide_eq_false e]
      rw [e2, valV_neg (fun z => e (h1.trans z))]
      exact ih
theorem RK.put {r : List Addr} {kvs : List (Key × IV)} {ys : List (Key × V)} (h : RK r kvs ys) (k : Key) {v : IV} {u : V} (hv : R r v u) : RK r (putM kvs k v) (putK ys k u) := by
  have ha : (kvs.any fun kv => decide (kv.1 = k)) = ys.any fun kv => decide (kv.1 = k) := by
    unfold RK at h
    induction h with
    | nil => rfl
    | @cons p q ps qs h t ih =>
      rw [List.any_cons, List.any_cons, ih, h.1]
  unfold putM putK
  rw [ha]
  split
  · rename_i hq
    clear hq ha
    unfold RK at h ⊢
    induction h with
    | nil => exact .nil
    | @cons p q ps qs h t ih =>
      rw [List.map_cons, List.map_cons]
      refine .cons ?_ ih
      obtain ⟨h1, h2⟩ := h
      by_cases e : p.1 = k
      · rw [if_pos e, if_pos (h1.symm.trans e)]
        exact ⟨h1, hv⟩
      · rw [if_neg e, if_neg (fun z => e (h1.trans z))]
        exact ⟨h1, h2⟩
  · rename_i hq
    clear hq ha
    unfold RK at h ⊢
    induction h with
    | nil => exact .cons ⟨rfl, hv⟩ .nil
    | @cons p q ps qs h t ih => exact .cons h ih
theorem RK.keys {r : List Addr} {kvs : List (Key × IV)} {ys : List (Key × V)} (h : RK r kvs ys) : kvs.map (·.1) = ys.map (·.1) := by
  unfold RK at h
  induction h with
  | nil => rfl
  | @cons p q ps qs h t ih => rw [List.map_cons, List.map_cons, ih, h.1]
theorem RK.length {r : List Addr} {kvs : List (Key × IV)} {ys : List (Key × V)} (h : RK r kvs ys) : kvs.length = ys.length := Paired.length h
/-! ### {} -/
def m_dnew (_ : Env) (ih : IH) : Res IV := .ok (.ref ih.length) (ih ++ [.dk []])
section
variable {X : Cx} {W : WX} {pos : Pos} {a b : Expr} {ma mb mc : Env → IH → Res IV}
theorem lm_dnew : PE X (.Dict [] [] pos) (tM X.K W m_dnew) := PE.of pe_dnewK fun σ H Q ⟨r, ih, env, hr, he, q⟩ p hp =>
  q (r ++ [p]) _ _ pre_one (hr.new hp rfl fun H' e => ⟨[], e, .nil⟩) (R.newest hr.len)
/-! ### d[k] -/
def f_dget (x y : IV) (ih : IH) : Res IV := match x with
  | .ref n => match ih[n]?, keyM y with
    | some (.dk kvs), some k => match getM kvs k with
      | some v => .ok v ih
      | none => .stuck
    | _, _ => .stuck
  | _ => .stuck
theorem lm_dget (hu : X.A.units + 1 < cLine) (ha : PE X a (tM X.K W ma)) (hb : PE X b (tM X.K W mb)) (hs : NoSl b := by intro _ _; rfl) : PE X (.Subscript a b pos) (tM X.K W (m_op f_dget ma mb)) :=
  PE.of (pe_dget hu ha hb hs) fun σ H Q ⟨r, ih, env, hr, he, q⟩ => tG.imp (tG_bind hr he q) fun u H1 ⟨r1, ih1, v, p, hr1, hv, q1⟩ =>
    tG.imp (tG_bind hr1 (he.mono p) q1) fun w H2 ⟨r2, ih2, y, p2, hr2, hy, q2⟩ => by
      cases v with
      | ref n =>
        obtain ⟨ad, ea, rfl⟩ := (hv.mono p2).ref
        unfold f_dget at q2
        dsimp only at q2
        split at q2
        · rename_i kvs k e1 e2
          obtain ⟨ys, h1, h2⟩ := hr2.get n ad _ ea e1
          obtain rfl := keyM_kV hy e2
          split at q2
          · rename_i z e3
            rcases h2.val k with ⟨g1, g2⟩ | ⟨v1, u1, g1, g2, g3⟩
            · rw [e3] at g1
              cases g1
            · rw [e3] at g1
              cases g1
              exact ⟨ad, u1, rfl, by rw [← g2]; exact DGet.k h1, tG_end q2 hr2 g3⟩
          · exact q2.elim
        · exact q2.elim
      | _ => exact q2.elim
/-! ### d.get(k, z) -/
def m_dget2 (mo mi mz : Env → IH → Res IV) (env : Env) (ih : IH) : Res IV := (mo env ih).bind fun x ih1 => match x with
  | .ref n => match ih1[n]? with
    | some (.dk _) => (mi env ih1).bind fun y ih2 => (mz env ih2).bind fun z ih3 => match ih3[n]?, keyM y with
      | some (.dk kvs), some k => .ok ((getM kvs k).getD z) ih3
      | _, _ => .stuck
    | _ => .stuck
  | _ => .stuck
theorem lm_dget2 {o e f : Expr} {apos cpos : Pos} {mo mi mz : Env → IH → Res IV} (hu : X.A.units + 1 < cLine) (ho : PE X o (tM X.K W mo)) (he : PE X e (tM X.K W mi)) (hf : PE X f (tM X.K W mz)) (m : M2 X o "get" apos e f cpos) : PE X (.Call (.Attribute o "get" apos) [e, f] [] cpos) (tM X.K W (m_dget2 mo mi mz)) :=
  PE.of (pe_dget2 hu ho he hf m) fun σ H Q ⟨r, ih, env, hr, he, q⟩ => tG.imp (tG_bind hr he q) fun u H1 ⟨r1, ih1, v, p, hr1, hv, q1⟩ => by
    cases v with
    | ref n =>
      obtain ⟨ad, ea, rfl⟩ := hv.ref
      dsimp only at q1
      split at q1
      · rename_i kvs0 e0
        obtain ⟨ys0, h0, _⟩ := hr1.get n ad _ ea e0
        refine ⟨ad, rfl, .inl ⟨ys0, .inl h0⟩, ?_⟩
        refine tG.imp (tG_bind hr1 (he.mono p) q1) fun w H2 ⟨r2, ih2, y, p2, hr2, hy, q2⟩ => tG.imp (tG_bind hr2 ((he.mono p).mono p2) q2) fun w3 H3 ⟨r3, ih3, z, p3, hr3, hz, q3⟩ => ?_
        dsimp only at q3
        split at q3
        · rename_i kvs k e1 e2
          obtain ⟨ys, h1, h2⟩ := hr3.get n ad _ (pre_get (pre_trans p2 p3) ea) e1
          obtain rfl := keyM_kV (hy.mono p3) e2
          refine ⟨valV ys k, DGet.k h1, ?_⟩
          rcases h2.val k with ⟨g1, g2⟩ | ⟨v1, u1, g1, g2, g3⟩
          · rw [g1] at q3
            rw [g2]
            exact tG_end q3 hr3 hz
          · rw [g1] at q3
            rw [g2]
            exact tG_end q3 hr3 g3
        · exact q3.elim
      · exact q1.elim
    | _ => exact q1.elim
/-! ### d[k] = v -/
def f_dput (o i v : IV) (ih : IH) : Option IH := match o with
  | .ref n => match ih[n]?, keyM i with
    | some (.dk kvs), some k => if kvs.length < 100000 then some (ih.set n (.dk (putM kvs k v))) else none
    | _, _ => none
  | _ => none
def ms_dput (m mo mi : Env → IH → Res IV) (env : Env) (ih : IH) : RS := (m env ih).stm env fun v ih1 => (mo env ih1).stm env fun o ih2 => (mi env ih2).stm env fun i ih3 => match f_dput o i v ih3 with
  | some ih4 => .ok (.next env) ih4
  | none => .stuck
theorem ls_dput {o i e : Expr} {tpos : Pos} {m mo mi : Env → IH → Res IV} (hu : X.A.units + 1 < cLine) (he : PE X e (tM X.K W m)) (ho : PE X o (tM X.K W mo)) (hi : PE X i (tM X.K W mi)) (hs : swapsWith e (some (.Subscript o i tpos)) pos.line X.env = pure false := by rfl) :
    PS X (.Assign [.Subscript o i tpos] e pos) (tMS X.K W (ms_dput m mo mi)) :=
  PS.of (ps_dput hu ho hi he hs) fun D σ H ⟨r, ih, env, hr, he, q⟩ => tG.imp (tG_stm hr he q) fun u H1 ⟨r1, ih1, v, p, hr1, hv, q1⟩ =>
    tG.imp (tG_stm hr1 (he.mono p) q1) fun u2 H2 ⟨r2, ih2, v2, p2, hr2, hv2, q2⟩ => tG.imp (tG_stm hr2 ((he.mono p).mono p2) q2) fun u3 H3 ⟨r3, ih3, v3, p3, hr3, hv3, q3⟩ => by
      dsimp only at q3
      cases e : f_dput v2 v3 v ih3 with
      | some ih4 =>
        rw [e] at q3
        cases v2 with
        | ref n =>
          obtain ⟨ad, ea, rfl⟩ := (hv2.mono p3).ref
          unfold f_dput at e
          dsimp only at e
          split at e
          · rename_i kvs k e1 e2
            obtain ⟨ys, h1, h2⟩ := hr3.get n ad _ ea e1
            obtain rfl := keyM_kV hv3 e2
            split at e
            · rename_i hl
              cases e
              refine ⟨ad, _, rfl, DPut.k h1 (by rw [← h2.length]; exact line5l hl), ?_⟩
              exact q3 r3 _ σ (pre_refl r3) (hr3.writeD ea e1 (h2.put k ((hv.mono p2).mono p3))) (((he.mono p).mono p2).mono p3)
            · cases e
          · cases e
        | _ => cases e
      | none =>
        rw [e] at q3
        exact q3.elim
end
end L3
/-! L3v: sum(d.values()), sorted(d), a dict of one pair. -/
namespace L3
variable [TabT] [LamT]
open PySem PySem.Spec PyProof.Rows L2
/-- the ints that the values are -/
def valsI : List (Key × IV) → Option (List Int)
  | [] => some []
  | (_, .int i) :: r => (valsI r).map (i :: ·)
  | _ :: _ => none
def keysI : List (Key × IV) → Option (List Int)
  | [] => some []
  | (.inl i, _) :: r => (keysI r).map (i :: ·)
  | _ :: _ => none
theorem valsI_of {r : List Addr} : ∀ {kvs : List (Key × IV)} {ys : List (Key × V)} {ns : List Int}, RK r kvs ys → valsI kvs = some ns → ys.map (·.2) = ns.map V.int
  | [], _, ns, h, e => by
    cases h
    cases e
    rfl
  | (k, v) :: kvs, _, ns, h, e => by
    cases h with
    | @cons p q ps qs a b =>
      cases v with
      | int i =>
        unfold valsI at e
        cases e2 : valsI kvs with
        | none => rw [e2] at e; cases e
        | some ms =>
          rw [e2] at e
          cases e
          rw [List.map_cons, List.map_cons, valsI_of b e2]
          congr 1
          exact a.2
      | _ => cases e
theorem keysI_of : ∀ {kvs : List (Key × IV)} {ns : List Int}, keysI kvs = some ns → kvs.map (·.1) = ns.map Sum.inl
  | [], ns, e => by
    cases e
    rfl
  | (k, v) :: kvs, ns, e => by
    cases k with
    | inl i =>
      unfold keysI at e
      cases e2 : keysI kvs with
      | none => rw [e2] at e; cases e
      | some ms =>
        rw [e2] at e
        cases e
        rw [List.map_cons, List.map_cons, keysI_of e2]
    | inr x => cases e
def f_sortedD (xs : List IV) (ih : IH) : Res IV := match xs with
  | [.ref n] => match ih[n]? with
    | some (.dk kvs) => match keysI kvs with
      | some ks => if ks.length < 64 then .ok (.ref ih.length) (ih ++ [.lst ((isI ks).map IV.int)]) else .stuck
      | none => .stuck
    | _ => .stuck
  | _ => .stuck
abbrev rSortedDI : List V → Hp → VK → Prop := fun xs H Q => ∃ (a : Addr) (kvs : List (Key × V)) (ks : List Int), xs = [.ref a] ∧ Rd H a (.dK kvs) ∧ kvs.map (·.1) = ks.map Sum.inl ∧ ks.length < 64 ∧
    ∀ (ys : List Int) (p : Addr), ys.Perm ks → ys.Pairwise (· ≤ ·) → H p = none → Q (.ref p) (upd H p (.lst (ys.map V.int)))
section
variable {K : PySem.W.Frag} {W : WX}
theorem s_sortedD : SndC K W rSortedDI f_sortedD := fun r ih H xs us σ Q hr hx q => by
  unfold f_sortedD at q
  split at q
  · rename_i n
    obtain ⟨b, rfl, hb⟩ : ∃ b, us = [V.ref b] ∧ r[n]? = some b := by
      cases hx with
      | cons h1 h2 =>
        cases h2
        obtain ⟨a, ea, rfl⟩ := h1.ref
        exact ⟨a, rfl, ea⟩
    split at q
    · rename_i kvs e1
      split at q
      · rename_i ks e2
        split at q
        · rename_i hl
          obtain ⟨ys, h1, h2⟩ := hr.get n b _ hb e1
          refine ⟨b, ys, ks, rfl, .inl h1, by rw [← h2.keys]; exact keysI_of e2, hl, fun ns' p hp hle hn => ?_⟩
          have e3 : ns' = isI ks := List.Perm.eq_of_pairwise (le := (· ≤ ·)) (fun a b _ _ h1 h2 => Int.le_antisymm h1 h2) hle (isI_le ks) (hp.trans (isI_perm ks).symm)
          subst e3
          exact end_lst q hr (Rs.ints r _) hn
        · exact q.elim
      · exact q.elim
    · exact q.elim
  · exact q.elim
end
/-! ### {k: v} -/
theorem PGen.pre {α β : Type} {rel : List Addr → α → β → Prop} {K : PySem.W.Frag} {W : WX} {σ : L2.St} {r r' : List Addr} {res : Res α} {Q : β → Hp → Prop} (p : r <+: r') (h : PGen rel K W σ r res Q) : PGen rel K W σ r' res Q := by
  cases res with
  | ok v ih => exact fun r2 H u p2 => h r2 H u (pre_trans p p2)
  | exc c ih => exact fun r2 H p2 => h r2 H (pre_trans p p2)
  | stuck => exact h
def m_disp1 (ma mb : Env → IH → Res IV) (env : Env) (ih : IH) : Res IV := (ma env (ih ++ [.dk []])).bind fun x ih1 => (mb env ih1).bind fun y ih2 => match keyM x, ih2[ih.length]? with
  | some k, some (.dk []) => .ok (.ref ih.length) (ih2.set ih.length (.dk [(k, y)]))
  | _, _ => .stuck
section
variable {X : Cx} {W : WX} {pos p apos cpos : Pos} {a b e : Expr} {ma mb : Env → IH → Res IV}
theorem lm_disp1 (ha : PE X a (tM X.K W ma)) (hb : PE X b (tM X.K W mb)) : PE X (.Dict [some a] [b] pos) (tM X.K W (m_disp1 ma mb)) :=
  PE.of (pe_disp (pps_cons ha hb pps_nil) rfl rfl (by simp) (by simp)) fun σ H Q ⟨r, ih, env, hr, he, q⟩ p hp => by
    have hr0 : Rel X.K (r ++ [p]) (ih ++ [.dk []]) (upd H p (.dK [])) := hr.new hp rfl fun H' e => ⟨[], e, .nil⟩
    have hl : r[ih.length]? = none := List.getElem?_eq_none (by rw [hr.len]; exact Nat.le_refl _)
    have hp0 : (r ++ [p])[ih.length]? = some p := by
      rw [List.getElem?_append_right (by rw [hr.len]; exact Nat.le_refl _), hr.len, Nat.sub_self]
      rfl
    have q := q.pre (pre_one (p := p))
    unfold m_disp1 at q
    show tM X.K W ma σ (upd H p (.dK [])) (fun x H1 => tM X.K W mb σ H1 (fun y H2 => tPairs [] σ H2 (fun ps H3 => _)))
    refine tG.imp (tG_bind hr0 (he.mono pre_one) q) fun u H1 ⟨r1, ih1, x, p1, hr1, hx, q1⟩ => tG.imp (tG_bind hr1 ((he.mono pre_one).mono p1) q1) fun w H2 ⟨r2, ih2, y, p2, hr2, hy, q2⟩ => ?_
    dsimp only at q2
    split at q2
    · rename_i k e1 e2
      have hp2 := pre_get (pre_trans p1 p2) hp0
      obtain ⟨ys, h1, h2⟩ := hr2.get _ p _ hp2 e2
      cases h2
      obtain rfl := keyM_kV (hx.mono p2) e1
      refine ⟨h1, [(k, w)], rfl, by simp, ?_⟩
      exact q2 r2 _ _ (pre_refl r2) (hr2.writeD hp2 e2 (.cons ⟨rfl, hy⟩ .nil)) ⟨p, hp2, rfl⟩
    · exact q2.elim
/-! ### sum(d.values()) -/
def okSum (ns : List Int) : Bool := ns.all (fun x => decide (0 ≤ x)) && decide (ns.sum < 2 ^ 62)
def f_sumV (x : IV) (ih : IH) : Res IV := match x with
  | .ref n => match ih[n]? with
    | some (.dk kvs) => match valsI kvs with
      | some ns => if okSum ns = true then .ok (.int ns.sum) ih else .stuck
      | none => .stuck
    | _ => .stuck
  | _ => .stuck
theorem okSum_of {ns : List Int} (h : okSum ns = true) : (∀ x ∈ ns, 0 ≤ x) ∧ ns.sum < 2 ^ 62 := by
  unfold okSum at h
  rw [Bool.and_eq_true, List.all_eq_true, decide_eq_true_eq] at h
  exact ⟨fun x hx => of_decide_eq_true (h.1 x hx), h.2⟩
theorem sum_take : ∀ (ns : List Int) (j : Nat), (∀ x ∈ ns, 0 ≤ x) → 0 ≤ (ns.take j).sum ∧ (ns.take j).sum ≤ ns.sum ∧ 0 ≤ ns.getD j 0 ∧ ns.getD j 0 ≤ ns.sum
  | [], j, _ => by simp
  | a :: ns, 0, h => by
    have h0 := h a (by simp)
    have i := sum_take ns 0 fun x hx => h x (List.mem_cons_of_mem _ hx)
    simp only [List.take_zero, List.sum_nil] at i
    rw [List.take_zero, List.sum_nil, List.sum_cons]
    show 0 ≤ 0 ∧ 0 ≤ a + ns.sum ∧ 0 ≤ a ∧ a ≤ a + ns.sum
    omega
  | a :: ns, j + 1, h => by
    have h0 := h a (by simp)
    have i := sum_take ns j fun x hx => h x (List.mem_cons_of_mem _ hx)
    rw [List.take_succ_cons, List.sum_cons, List.sum_cons, List.getD_cons_succ]
    omega
theorem preSum_take (ns : List Int) : ∀ j, preSum (fun i => ns.getD i 0) j = (ns.take j).sum
  | 0 => by rw [List.take_zero]; rfl
  | j + 1 => by
    show preSum (fun i => ns.getD i 0) j + ns.getD j 0 = _
    rw [preSum_take ns j, List.take_add_one, List.sum_append, List.getD_eq_getElem?_getD]
    cases ns[j]? with
    | none => rfl
    | some x => show _ + x = _ + (x + 0); omega
theorem lm_sumV (hc : X.calm = true) (hg : Gl X "sum") (hm : X.mg "sum" = none) (he : PE X e (tM X.K W ma)) (hbase : attributeBase e "values" X.env (eval e X.env) = eval e X.env := by rfl) (hline : (apos.endLine == cpos.line) = true := by rfl)
    (hs : starEach [.Call (.Attribute e "values" apos) [] [] cpos] X.env = [(false, eval (.Call (.Attribute e "values" apos) [] [] cpos) X.env)] := by rfl) :
    PE X (.Call (.Name "sum" p) [.Call (.Attribute e "values" apos) [] [] cpos] [] pos) (tM X.K W (m_un f_sumV ma)) := by
  refine PE.of ⟨fun pins s σ H Q I q => ?_⟩ fun σ H Q h => h
  obtain ⟨r, ih, env, hr, hE, q⟩ := q
  refine wpAny_Call_Name_kw (ld_blt I hg hm rfl ?_)
  refine PyProof.Rows.callWith_builtin1 ?_ hs (by rfl)
  refine Calls.spliced_cons ?_
  refine wpAny_Call_method (T := "dict") (id := "dict.values") hbase rfl hline PySem.F.plainAttrs_dict PySem.F.slot_dict_values PySem.F.type_dict_values (thn (he.run pins s σ H _ I (tG_bind hr hE q)) fun u s1 ⟨x, H1, I1, rx, r1, ih1, v, p1, hr1, hv, q1⟩ => ?_)
  dsimp only at q1
  cases v with
  | ref n =>
    obtain ⟨ad, ea, hx⟩ := hv
    subst hx
    obtain rfl : u = Value.ref ad := rx
    unfold f_sumV at q1
    dsimp only at q1
    split at q1
    · rename_i kvs e1
      split at q1
      · rename_i ns e2
        split at q1
        · rename_i hok
          obtain ⟨ys, h1, h2⟩ := hr1.get n ad _ ea e1
          have hv2 := valsI_of h2 e2
          obtain ⟨z, hsm, vs, rel, dd⟩ := dk_of I1.hok h1
          refine ⟨dd.typeIs, dd.mapOf.noDict, ?_⟩
          have I2 : Inv X pins σ H1 { s1 with heap := s1.heap.push { cls := .type "dict_values", data := .fields #[.ref ad] } } := I1.kept (t' := s1.toks) fun b ob q => Heap.get?_push_of_some _ q
          refine method_meetsIn PySem.F.slot_dict_values PySem.F.entry_dict_values rfl (PySem.evalArgs_none ⟨rfl, dd.typeIs, PySem.F.args_dict_values_1 _, _, meets_dict_values (mixKind X.prog X.w) ad hsm, ⟨vs, dd⟩, ?_⟩)
          refine Calls.spliced_nil ?_
          obtain ⟨ob, es, ep, hget, hex, hdt, hkeys, hprs, hnd⟩ := dd
          have l1 := hprs.length
          rw [Array.length_toList] at l1
          have l2 : ys.length = vs.length := rel.length
          have l3 : ys.length = ns.length := by
            have e := congrArg List.length hv2
            rw [List.length_map, List.length_map] at e
            exact e
          have hsz : es.size = ns.length := by omega
          have hP : ∀ (i : Nat) (e : DictEntry), es[i]? = some e → ∃ t, e.val = .int (ns.getD i 0) t := fun i e he => by
            have hi : i < es.size := (Array.getElem?_eq_some_iff.mp he).1
            have hi2 : i < ys.length := by omega
            have hi3 : i < ns.length := by omega
            obtain ⟨u, hu, ru⟩ := kv_get rel (i := i) (k := ys[i].1) (v := ys[i].2) (List.getElem?_eq_getElem hi2)
            obtain ⟨g1, g2⟩ := hprs.get? (e := e) (by rw [Array.getElem?_toList]; exact he) hu
            have e2 : ys[i].2 = V.int ns[i] := by
              have z : (ys.map (·.2))[i]? = (ns.map V.int)[i]? := by rw [hv2]
              rw [List.getElem?_map, List.getElem?_map, List.getElem?_eq_getElem hi2, List.getElem?_eq_getElem hi3] at z
              exact Option.some.inj z
            have e3 : ns.getD i 0 = ns[i] := by rw [List.getD_eq_getElem?_getD, List.getElem?_eq_getElem hi3] <;> rfl
            rw [e2] at ru
            rw [e3, g2]
            exact ru
          have ha : ad < s1.heap.objs.size := Heap.lt_size hget
          have hget2 : (s1.heap.push { cls := .type "dict_values", data := .fields #[.ref ad] }).get? ad = some ob := Heap.get?_push_of_some _ hget
          obtain ⟨hpos, hlt⟩ := okSum_of hok
          show wpAny _ _ (call (.builtin "sum") _) _ _ _
          refine call_sum_walk ?_
          refine DSub.iter_vals (v := s1.heap.objs.size) (a := ad) (Heap.get?_push_size _ rfl) hget2 hdt ?_
          refine ⟨(s1.heap.push { cls := .type "dict_values", data := .fields #[.ref ad] }).objs.size, [(s1.heap.push { cls := .type "dict_values", data := .fields #[.ref ad] }).objs.size, ad], [(s1.heap.push { cls := .type "dict_values", data := .fields #[.ref ad] }).objs.size], es.size, fun i v => ∃ t, v = .int (ns.getD i 0) t, _, fun i => ns.getD i 0, rfl, DSub.walksVal (a := ad) (show X.A.in1.handled = none from I1.ok.hd hc) (by
            rw [size_push']
            exact Nat.ne_of_lt (Nat.lt_succ_of_lt ha)) hdt hP, ⟨Heap.get?_push_size _ rfl, Heap.get?_push_of_some _ hget2⟩, fun b hb => ?_, fun i v h => h, fun j hj => ?_, fun h' tk t' hk => ?_⟩
          · show b < ((s1.heap.push _).push _).objs.size
            rw [size_push', size_push']
            rcases List.mem_cons.mp hb with z | z
            · rw [z, size_push']
              exact Nat.lt_succ_self _
            · rw [List.mem_singleton.mp z]
              exact Nat.lt_succ_of_lt (Nat.lt_succ_of_lt ha)
          · rw [preSum_take]
            have h1 := sum_take ns j hpos
            have h2 := sum_take ns (j + 1) hpos
            unfold InLong
            dsimp only
            omega
          · have hk2 : ∀ b o, s1.heap.get? b = some o → h'.get? b = some o := fun b o e => hk b o (fun z => by
              rw [List.mem_singleton.mp z, size_push'] at e
              exact absurd (Heap.lt_size e) (Nat.not_lt_of_lt (Nat.lt_succ_self _))) (Heap.get?_push_of_some _ (Heap.get?_push_of_some _ e))
            refine ⟨.int ns.sum, H1, I1.kept (t' := tk) hk2, ⟨t', ?_⟩, tG_end q1 hr1 rfl⟩
            rw [preSum_take, hsz, List.take_length]
        · exact q1.elim
      · exact q1.elim
    · exact q1.elim
  | _ => exact q1.elim
end
end L3
/-! L3y: xs.count(x), xs.index(x) of flat items. -/
namespace L3
variable [TabT] [LamT]
open PySem PySem.Spec PyProof.Rows L2
theorem cnt_eqU {x : V} : ∀ {xs : List V} {us : List Value}, Vals xs us → xs.all flatV = true → us.countP (eqU x) = xs.countP fun y => eqV y x
  | _, _, .nil, _ => rfl
  | y :: xs, u :: us, .cons r t, f => by
    rw [List.all_cons, Bool.and_eq_true] at f
    rw [List.countP_cons, List.countP_cons, cnt_eqU t f.2, eqU_of r f.1]
section
variable {X : Cx}
def rCount (K : PySem.W.Frag) : V → List V → Hp → VK → Prop := fun x xs H Q => ∃ (a : Addr) (ys : List V) (y : V), x = V.ref a ∧ xs = [y] ∧ SqL K H a ys ∧ flatV y = true ∧ ys.all flatV = true ∧ Q (.int (ys.countP fun z => eqV z y : Nat)) H
theorem mt_count : MtR X "list.count" (rCount X.K) := by
  intro pins s σ H x xs v us Q I rx rxs h
  obtain ⟨a, ys, y, rfl, rfl, hs, fy, fys, q⟩ := h
  cases rx
  cases rxs with
  | cons ry rt =>
    rename_i uy ut
    cases rt
    obtain ⟨its, rv, ⟨⟨cls, dd, data, sl⟩, n, ho, hc, hdn, hd⟩, hlen⟩ := I.list hs
    simp only at hc hd
    subst hc hd
    refine call_meets PySem.F.slot_list_count ⟨_, ho, rfl⟩ PySem.F.entry_list_count (PySem.F.args_list_count_2 _ _)
      (SeqAt.list_countAt a its.toArray n dd sl uy (eqU y)) ⟨ho, fun u' hu' => mem_eqAt ry fy rv fys u' (by simpa using hu'), ?_⟩
    have ec : its.toArray.toList.countP (eqU y) = ys.countP fun z => eqV z y := cnt_eqU rv fys
    refine ⟨.int (ys.countP fun z => eqV z y : Nat), H, I.tok _, ⟨s.toks, ?_⟩, q⟩
    show Value.int ((its.toArray.toList.countP (eqU y) : Nat) : Int) s.toks = Value.int ((ys.countP fun z => eqV z y : Nat) : Int) s.toks
    rw [ec]
end
def flatI : IV → Bool
  | .non => true
  | .bl _ => true
  | .int _ => true
  | .str _ => true
  | _ => false
theorem flatI_R {r : List Addr} {x : IV} {u : V} (h : R r x u) (f : flatI x = true) : u = x.toV ∧ flatV u = true := by
  cases x with
  | non => exact ⟨h, by rw [show u = _ from h]; rfl⟩
  | bl b => exact ⟨h, by rw [show u = _ from h]; rfl⟩
  | int i => exact ⟨h, by rw [show u = _ from h]; rfl⟩
  | str z => exact ⟨h, by rw [show u = _ from h]; rfl⟩
  | _ => cases f
theorem flatI_Rs {r : List Addr} : ∀ {xs : List IV} {us : List V}, Rs r xs us → xs.all flatI = true → us = xs.map IV.toV ∧ us.all flatV = true
  | _, _, .nil, _ => ⟨rfl, rfl⟩
  | x :: xs, u :: us, .cons h t, f => by
    rw [List.all_cons, Bool.and_eq_true] at f
    obtain ⟨e1, f1⟩ := flatI_R h f.1
    obtain ⟨e2, f2⟩ := flatI_Rs t f.2
    exact ⟨by rw [e1, e2]; rfl, by rw [List.all_cons, f1, f2]; rfl⟩
def eqI (y : IV) (z : IV) : Bool := eqV z.toV y.toV
def f_count (x : IV) (vs : List IV) (ih : IH) : Res IV := match x, vs with
  | .ref n, [y] => match ih[n]? with
    | some o => if o.isL = true ∧ flatI y = true ∧ o.xs.all flatI = true then .ok (.int (o.xs.countP (eqI y) : Nat)) ih else .stuck
    | none => .stuck
  | _, _ => .stuck
def f_index (x : IV) (vs : List IV) (ih : IH) : Res IV := match x, vs with
  | .ref n, [y] => match ih[n]? with
    | some o => if o.isL = true ∧ flatI y = true ∧ o.xs.all flatI = true then (match o.xs.findIdx? (eqI y) with
      | some j => .ok (.int (j : Nat)) ih
      | none => .stuck) else .stuck
    | none => .stuck
  | _, _ => .stuck
section
variable {X : Cx} {K : PySem.W.Frag} {W : WX}
theorem s_count : SndM K W (rCount K) f_count := by
  intro r ih H x u xs us σ Q hr hx hxs q
  unfold f_count at q
  split at q
  · rename_i n y
    obtain ⟨a, ea, rfl⟩ := hx.ref
    obtain ⟨w, rfl, hy⟩ := hxs.one
    split at q
    · rename_i o e1
      split at q
      · rename_i hc
        obtain ⟨ys, h1, h2⟩ := (hr.get n a _ ea e1).l hc.1
        obtain ⟨e2, f2⟩ := flatI_R hy hc.2.1
        obtain ⟨e3, f3⟩ := flatI_Rs h2 hc.2.2
        refine ⟨a, ys, w, rfl, rfl, h1, f2, f3, tG_end q hr ?_⟩
        show _ = _
        rw [e3, e2, List.countP_map]
        rfl
      · exact q.elim
    · exact q.elim
  · exact q.elim
theorem s_index : SndM K W (rIndex K) f_index := by
  intro r ih H x u xs us σ Q hr hx hxs q
  unfold f_index at q
  split at q
  · rename_i n y
    obtain ⟨a, ea, rfl⟩ := hx.ref
    obtain ⟨w, rfl, hy⟩ := hxs.one
    split at q
    · rename_i o e1
      split at q
      · rename_i hc
        obtain ⟨ys, h1, h2⟩ := (hr.get n a _ ea e1).l hc.1
        obtain ⟨e2, f2⟩ := flatI_R hy hc.2.1
        obtain ⟨e3, f3⟩ := flatI_Rs h2 hc.2.2
        split at q
        · rename_i j ej
          obtain ⟨hj, hp, hno⟩ := List.findIdx?_eq_some_iff_getElem.mp ej
          refine ⟨a, ys, w, j, o.xs[j].toV, rfl, rfl, h1, f2, f3, by rw [e3, List.getElem?_map, List.getElem?_eq_getElem hj]; rfl, by rw [e2]; exact hp, fun m z' hm hz => ?_, tG_end q hr rfl⟩
          rw [e3, List.getElem?_map, List.getElem?_eq_getElem (by omega)] at hz
          cases hz
          rw [e2]
          have := hno m hm
          exact Bool.eq_false_iff.mpr this
        · exact q.elim
      · exact q.elim
    · exact q.elim
  · exact q.elim
end
end L3
/-! L3z: repr; defs that are run where no repr is under way. -/
namespace L3
variable [TabT] [LamT]
open PySem PySem.Spec PyProof.Rows L2

/-! ### repr -/
/-- the data of a value: as Is says, or a pair of such a value and an empty dict -/
def IsR (ih : IH) (v : IV) (d : PyData) : Prop := Is ih v d ∨ ∃ n m x e, v = .ref n ∧ ih[n]? = some (.tup [x, .ref m]) ∧ Is ih x e ∧ ih[m]? = some (.dk []) ∧ d = .tuple [e, .dict []]
theorem IsR.uniq {ih : IH} {v : IV} {d e : PyData} (h : IsR ih v d) (k : IsR ih v e) : d = e := by
  have no : ∀ {n m : Nat} {x : IV} {e d : PyData}, ih[n]? = some (.tup [x, .ref m]) → ih[m]? = some (.dk []) → Is ih (.ref n) d → False := fun {n m x e d} h1 h2 h3 => by
    cases h3 with
    | lst g1 g2 g3 =>
      rw [h1] at g1
      cases g1
      cases g2
    | tup g1 g2 g3 =>
      rw [h1] at g1
      cases g1
      cases g3 with
      | cons a b =>
        cases b with
        | cons c d =>
          cases c with
          | lst f1 f2 f3 => rw [h2] at f1; cases f1; cases f2
          | tup f1 f2 f3 => rw [h2] at f1; cases f1; cases f2
  rcases h with h | ⟨n, m, x, d1, rfl, h1, h2, h3, rfl⟩
  · rcases k with k | ⟨n, m, x, e1, rfl, k1, k2, k3, rfl⟩
    · exact Is.uniq _ _ _ h k
    · exact (no (e := e1) k1 k3 h).elim
  · rcases k with k | ⟨n', m', x', e1, e0, k1, k2, k3, rfl⟩
    · exact (no (e := d1) h1 h3 k).elim
    · cases e0
      rw [h1] at k1
      cases k1
      rw [Is.uniq _ _ _ h2 k2]
def okR (d : PyData) : Prop := d.showable = true ∧ d.shown.length ≤ sizeLine ∧ d.depth ≤ 50
open Classical in
noncomputable def f_repr (xs : List IV) (ih : IH) : Res IV := match xs with
  | [.ref n] => if h : ∃ d, IsR ih (.ref n) d ∧ okR d then .ok (.str h.choose.shown) ih else .stuck
  | _ => .stuck
open Classical in
theorem f_repr_of {n : Nat} {ih : IH} {d : PyData} (h : IsR ih (.ref n) d) (k : okR d) : f_repr [.ref n] ih = .ok (.str d.shown) ih := by
  unfold f_repr
  have e : ∃ d, IsR ih (.ref n) d ∧ okR d := ⟨d, h, k⟩
  show (if h : ∃ d, IsR ih (.ref n) d ∧ okR d then Res.ok (IV.str h.choose.shown) ih else .stuck) = _
  rw [dif_pos e]
  rw [IsR.uniq e.choose_spec.1 h]
/-- the same, of the heap -/
def DpR (K : PySem.W.Frag) (H : Hp) (a : Addr) (d : PyData) : Prop := Dp K H (.ref a) d ∨ ∃ x b e, SqT K H a [x, .ref b] ∧ Dp K H x e ∧ H b = some (.dK []) ∧ d = .tuple [e, .dict []]
mutual
theorem dp_noDict {K : PySem.W.Frag} {H : Hp} : ∀ (d : PyData) (v : V), Dp K H v d → d.hasDict = false
  | .none, _, _ => rfl
  | .bool _, _, _ => rfl
  | .int _, _, _ => rfl
  | .str _, _, _ => rfl
  | .list ds, _, h => by
    cases h with
    | lst h1 h2 =>
      have := dp_noDictAll ds _ h2
      simpa [PyData.hasDict] using this
  | .tuple ds, _, h => by
    cases h with
    | tup h1 h2 =>
      have := dp_noDictAll ds _ h2
      simpa [PyData.hasDict] using this
  | .dict _, _, h => by cases h
theorem dp_noDictAll {K : PySem.W.Frag} {H : Hp} : ∀ (ds : List PyData) (vs : List V), DpAll K H vs ds → PyData.hasDictAll ds = false
  | [], _, _ => rfl
  | d :: ds, _, h => by
    cases h with
    | cons h1 h2 =>
      have a := dp_noDict d _ h1
      have b := dp_noDictAll ds _ h2
      simp [PyData.hasDictAll, a, b]
end
def rRepr (K : PySem.W.Frag) : List V → Hp → VK → Prop := fun xs H Q => ∃ a d, xs = [.ref a] ∧ DpR K H a d ∧ okR d ∧ Q (.str d.shown) H
section
variable {X : Cx}
theorem call_reprA (hg : X.A.guards = some []) (hu : X.A.units + 64 < cLine) : CallR X (.builtin "repr") (rRepr X.K) := by
  intro pins s σ H xs us Q I r h
  obtain ⟨a, d, rfl, hd, ⟨k1, k2, k3⟩, q⟩ := h
  rw [Vals.ref1 r]
  have fin : ∀ (h' : Heap) (u tk : Nat), (∀ b o, s.heap.get? b = some o → h'.get? b = some o) → EP X pins σ Q (.str d.shown u) { s with heap := h', toks := tk } := fun h' u tk hk => ⟨.str d.shown, H, I.kept hk, ⟨u, rfl⟩, q⟩
  rcases hd with hd | ⟨x, b, e, hs, hx, hb, rfl⟩
  · obtain ⟨as, rr⟩ := Dp.reads I d _ _ hd (show RelV (.ref a) (.ref a) from rfl)
    exact repr_of_reads' rr k1 (fun z => by rw [dp_noDict d _ hd] at z; cases z) hg (by omega) (fun _ _ z => z) fun h' u tk hk => fin h' u tk hk
  · obtain ⟨its, rv, ⟨o, ho, hc, n, hdt⟩, _⟩ := I.tuple hs
    cases rv with
    | cons r1 rv =>
      rename_i ux its
      cases rv with
      | cons r2 rv =>
        rename_i ub its
        cases rv
        cases (show ub = Value.ref b from r2)
        obtain ⟨ax, rx⟩ := Dp.reads I e _ _ hx r1
        obtain ⟨_, hsys, vs, hkv, od, es, ep, hb1, hb2, hb3, _, hb5, _⟩ := dk_of I.hok hb
        have hvs : vs = [] := by
          have := Paired.length hkv
          exact List.length_eq_zero_iff.mp (by simpa using this.symm)
        subst hvs
        have hes : es.toList = [] := List.length_eq_zero_iff.mp (by rw [hb5.length]; rfl)
        have rd : Reads s.heap (.ref b) (.dict []) (b :: [] ++ []) := Reads.dict (as := []) (bs := []) hb1 hb2.1 hb3 (by rw [hes]; exact ReadsAll.nil) (by rw [hes]; exact ReadsAll.nil)
        have rt : Reads s.heap (.ref a) (.tuple [e, .dict []]) (ax ++ ((b :: [] ++ []) ++ [])) := Reads.tuple ho hc hdt (.cons rx (.cons rd .nil))
        have sh : e.showable = true ∧ (PyData.dict []).showable = true := by
          simp [PyData.showable, PyData.showableAll, PyData.showableKv] at k1 ⊢
          exact k1
        have hz : (tupleText [e.shown, (PyData.dict []).shown]).length ≤ sizeLine := by simpa [PyData.shown, PyData.shownAll] using k2
        obtain ⟨bs1, m1, q1⟩ := ReprK.of_reads (prog := X.prog) (w := X.w) rx sh.1 (fun z => by rw [dp_noDict e _ hx] at z; cases z) (Nat.le_trans (tupleText_mem_le (by simp)) hz)
        obtain ⟨bs2, m2, q2⟩ := ReprK.of_reads (prog := X.prog) (w := X.w) rd sh.2 (fun _ z => by
          have : sysModules = b := by simpa using z
          rw [← this] at hsys
          simp at hsys) (Nat.le_trans (tupleText_mem_le (by simp)) hz)
        have l1 : e.depth ≤ PyData.depthAll [e, .dict []] := by simp only [PyData.depthAll]; omega
        have l2 : (PyData.dict []).depth ≤ PyData.depthAll [e, .dict []] := by simp only [PyData.depthAll]; omega
        have hk : ReprAllK X.prog X.w (bs1 ++ bs2) s.heap (PyData.depthAll [e, .dict []]) [ux, .ref b] [e.shown, (PyData.dict []).shown] := by
          have a1 := ReprAllK.more_le (as' := bs1 ++ bs2) (fun b hb => List.mem_append_left _ hb) l1 (.cons q1 .nil)
          have a2 := ReprAllK.more_le (as' := bs1 ++ bs2) (fun b hb => List.mem_append_right _ hb) l2 (.cons q2 .nil)
          cases a1 with
          | cons c1 _ => exact .cons c1 a2
        have hm : ReadAtMost s.heap (PyData.depthAll [e, .dict []]) (bs1 ++ bs2) := (m1.mono l1).append (m2.mono l2)
        have hna : a ∉ bs1 ++ bs2 := not_mem_of_deeper rt (by simp only [PyData.depth]; omega) hm
        have dl : PyData.depthAll [e, .dict []] ≤ 50 := by
          have k4 : (PyData.tuple [e, .dict []]).depth ≤ 50 := k3
          simp only [PyData.depth] at k4
          omega
        refine call_repr_slot (by omega) (T := "tuple") ⟨o, ho, hc⟩ F.slot_tuple_repr ?_
        refine call_tuple_reprK (items := #[ux, .ref b]) ho hc hdt hna hk (g := []) hg (fun b _ => Clear.nil b) (by show X.A.units + 1 + _ < cLine; omega) (fun _ _ z => z) (fun h' u tk hk' => ⟨_, _, rfl, ?_⟩) hz
        have := fin h' u tk hk'
        simpa [PyData.shown, PyData.shownAll] using this
end
theorem s_repr {K : PySem.W.Frag} {W : WX} : SndC K W (rRepr K) f_repr := by
  intro r ih H xs us σ Q hr hx q
  unfold f_repr at q
  split at q
  · rename_i n
    split at q
    · rename_i h
      obtain ⟨h1, h2⟩ := h.choose_spec
      cases hx with
      | cons hx1 hx2 =>
        cases hx2
        obtain ⟨a, ea, rfl⟩ := hx1.ref
        refine ⟨a, h.choose, rfl, ?_, h2, tG_end q hr rfl⟩
        generalize h.choose = d at h1
        rcases h1 with h1 | ⟨n', m, x, e, e0, g1, g2, g3, rfl⟩
        · exact .inl (Is.dp hr _ _ _ h1 ⟨a, ea, rfl⟩)
        · cases e0
          obtain ⟨ys, t1, t2⟩ := (hr.get n a _ ea g1).t rfl
          cases t2 with
          | cons c1 t2 =>
            cases t2 with
            | cons c2 t2 =>
              cases t2
              obtain ⟨b, eb, rfl⟩ := c2.ref
              obtain ⟨ys2, d1, d2⟩ := hr.get m b _ eb g3
              cases d2
              exact .inr ⟨_, b, e, t1, Is.dp hr _ _ _ g2 c1, d1, rfl⟩
    · exact q.elim
  · exact q.elim

/-! ### defs that are run where no repr is under way -/
structure FnOkG (P : Program) (w : World) (K : PySem.W.Frag) (mg : Str → Option Value) (base : Heap) (CX : CXT) (k : Nat) (f : Addr) (fd : FuncData) (ps : List Str) (sp : Sp) : Prop where
  len : ∀ vs H Q E, sp vs H Q E → vs.length = ps.length
  run : ∀ (A : Around) (outer : List PySem.Env) (s : Shared) (H : Hp) (args : Args) (us : List Value) (vs : List V) (Q : VK) (E : XK), A.guards = some [] → Room k A → Env0 P w K mg base A outer s H → BindsTo s fd args (ps.zip us) → Vals vs us → sp vs H Q E →
    codeAny (model P w) A (.call (.ref f) args) (CR CX outer P w H s Q E) s
theorem FnOkG.imp {P : Program} {w : World} {K : PySem.W.Frag} {mg : Str → Option Value} {base : Heap} {CX : CXT} {k : Nat} {f : Addr} {fd : FuncData} {ps : List Str} {sp sp' : Sp} (F : FnOkG P w K mg base CX k f fd ps sp) (h : ∀ vs H Q E, sp' vs H Q E → sp vs H Q E) : FnOkG P w K mg base CX k f fd ps sp' :=
  ⟨fun vs H Q E q => F.len vs H Q E (h _ _ _ _ q), fun A outer s H args us vs Q E hg hr he hb hv hs => F.run A outer s H args us vs Q E hg hr he hb hv (h _ _ _ _ hs)⟩
section
variable {P : Program} {w : World} {K : PySem.W.Frag} {mg mb : Str → Option Value} {k : Nat} {fa a : Addr} {fd : FuncData} {x : Str} {sp : Sp} {s₁ : Shared} {vs : List Value} {ns : List Int}
/-- the promise, from a heap in which the script may be told -/
theorem law_runG {CX : CXT} {H : Hp} (KX : K.In s₁.heap) (hns : s₁.heap.Ns mainGlobals mg) (hb : s₁.heap.Ns builtinsNs mb) (hbb : ∀ x : Str, x ≠ "__name__" → mb x = bootBuiltins x) (hlim : s₁.heap.NoLimit) (hg : s₁.gens = #[])
    (hr : Room k callerA) (F : ∀ base : Heap, K.In base → base.Ns mainGlobals mg → FnOkG P w K mg base CX k fa fd [x] sp) (hbind : ∀ (s : Shared) (u : Value), BindsTo s fd ⟨[u], []⟩ [(x, u)]) (hCX : ∀ H e s', CX [] H s₁ (fun _ _ _ => False) e s' → False)
    (ok : HOk P w H s₁.heap) (hsp : sp [.ref a] H (fun v _ => v = .bl true) fun _ _ _ => False)
    (told : ∀ b u, H b = some u → (∃ o xs, u = .frz o (.lst xs)) ∧ K.lookup b = none ∧ ∃ o vs n, s₁.heap.get? b = some o ∧ o.data = .seq vs n) :
    codeAny (model P w) callerA (.call (.ref fa) ⟨[.ref a], []⟩) (fun r s' => r = .ok (.ret (.bool true)) ∧ OldK s₁.heap s'.heap ∧ s'.os = s₁.os ∧ AllBare s'.gens) s₁ := by
  have free : ∀ {b : Addr} {o : Obj}, s₁.heap.get? b = some o → (∀ vs n, o.data ≠ .seq vs n) → (hidT s₁.heap H).get? b = some o := fun {b o} e nd => by
    refine hidT_get e ?_
    cases z : H b with
    | none => rfl
    | some u =>
      obtain ⟨_, _, o', vs', n', e', d'⟩ := told b u z
      rw [e] at e'
      cases e'
      exact absurd d' (nd vs' n')
  have ns : ∀ {b : Addr} {m : Str → Option Value}, s₁.heap.Ns b m → (hidT s₁.heap H).Ns b m := fun {b m} h => by
    obtain ⟨o, es, ep, e, d, r⟩ := h
    exact ⟨o, es, ep, free e (fun vs n z => by rw [d] at z; cases z), d, r⟩
  have kin : K.In (hidT s₁.heap H) := fun b o e => hidT_get (KX b o e) (by
    cases z : H b with
    | none => rfl
    | some u =>
      obtain ⟨_, n, _⟩ := told b u z
      rw [n] at e
      cases e)
  obtain ⟨mc, l1, l2⟩ := hlim
  have e0 : Env0 P w K mg (hidT s₁.heap H) callerA [] s₁ H := ⟨rfl, ⟨kin, ns hns, ⟨mb, ns hb, hbb⟩, ⟨mc, ns l1, l2⟩⟩, fun b o e => of_hidT e, Nat.le_of_eq (hidT_size _ _), trivial, (fun b hb => absurd (show b ∈ ([] : List Addr) from hb) List.not_mem_nil), ok, .of_eq hg⟩
  refine codeAny_mono ((F _ kin (ns hns)).run callerA [] s₁ H ⟨[.ref a], []⟩ [.ref a] [.ref a] _ _ rfl hr e0 (hbind s₁ (.ref a)) (.cons rfl .nil) hsp) fun r s' h => ?_
  cases r with
  | error e => exact (hCX H e s' h).elim
  | ok fl =>
    cases fl with
    | next => exact False.elim h
    | brk => exact False.elim h
    | cont => exact False.elim h
    | ret u =>
      obtain ⟨v, H', os, bare, un, ok', rv, hv⟩ := h
      have hv' : v = .bl true := hv
      subst hv'
      obtain rfl : u = Value.bool true := rv
      refine ⟨rfl, OldK.of_keep fun b o e => ?_, os, bare⟩
      cases z : H b with
      | none => exact un.keep b o e z (fun h => List.not_mem_nil h) List.not_mem_nil
      | some u =>
        obtain ⟨⟨ob, xs, rfl⟩, _⟩ := told b u z
        have k1 := (ok b _ z).1
        have k2 := (ok' b _ (un.frzs b ob _ z)).1
        rw [e] at k1
        cases k1
        exact k2
theorem law_callG {CX : CXT} (KX : K.In s₁.heap) (hns : s₁.heap.Ns mainGlobals mg) (hb : s₁.heap.Ns builtinsNs mb) (hbb : ∀ x : Str, x ≠ "__name__" → mb x = bootBuiltins x) (hlim : s₁.heap.NoLimit) (hg : s₁.gens = #[])
    (ha : s₁.heap.get? a = some { cls := .type "list", data := .seq vs.toArray }) (hi : IntsAre vs ns) (hl : ns.length ≤ sizeLine) (hr : Room k callerA)
    (F : ∀ base : Heap, K.In base → base.Ns mainGlobals mg → FnOkG P w K mg base CX k fa fd [x] sp) (hbind : ∀ (s : Shared) (u : Value), BindsTo s fd ⟨[u], []⟩ [(x, u)])
    (hsp : ∀ H : Hp, Only H → SqL K H a (ns.map V.int) → sp [.ref a] H (fun v _ => v = .bl true) fun _ _ _ => False)
    (hCX : ∀ H e s', CX [] H s₁ (fun _ _ _ => False) e s' → False) :
    codeAny (model P w) callerA (.call (.ref fa) ⟨[.ref a], []⟩) (fun r s' => r = .ok (.ret (.bool true)) ∧ OldK s₁.heap s'.heap ∧ s'.os = s₁.os ∧ AllBare s'.gens) s₁ := by
  have rv := vals_ints hi
  cases hk : K.lookup a with
  | some o =>
    obtain rfl : o = { cls := .type "list", data := .seq vs.toArray } := Option.some.inj ((KX a o hk).symm.trans ha)
    refine law_runG (H := fun _ => none) KX hns hb hbb hlim hg hr F hbind hCX (fun b u z => nomatch z) (hsp _ (fun _ => .inl rfl) ?_) fun b u z => nomatch z
    exact .inr ⟨_, vs.toArray, _, hk, rfl, rfl, rfl, by rw [List.size_toArray, hi.length]; exact hl, by simpa using rv⟩
  | none =>
    obtain ⟨H, hH⟩ : ∃ H : Hp, H = fun b => if b = a then some (.frz { cls := .type "list", data := .seq vs.toArray } (.lst (ns.map V.int))) else none := ⟨_, rfl⟩
    have at_ : H a = some (.frz { cls := .type "list", data := .seq vs.toArray } (.lst (ns.map V.int))) := by rw [hH]; exact if_pos rfl
    have only : ∀ b u, H b = some u → b = a ∧ u = .frz { cls := .type "list", data := .seq vs.toArray } (.lst (ns.map V.int)) := fun b u z => by
      rw [hH] at z
      by_cases e : b = a
      · exact ⟨e, (Option.some.inj ((if_pos e).symm.trans z)).symm⟩
      · exact nomatch (if_neg e).symm.trans z
    refine law_runG (H := H) KX hns hb hbb hlim hg hr F hbind hCX (fun b u z => ?_) (hsp H (fun b => ?_) (.inl (.inr ⟨_, at_⟩))) fun b u z => ?_
    · obtain ⟨rfl, rfl⟩ := only b u z
      exact ⟨ha, by rw [List.length_map]; exact hl, vs, _, rv, ha⟩
    · cases z : H b with
      | none => exact .inl rfl
      | some u => exact .inr ⟨_, _, by rw [(only b u z).2]⟩
    · obtain ⟨rfl, rfl⟩ := only b u z
      exact ⟨⟨_, _, rfl⟩, hk, _, _, _, ha, rfl⟩
theorem walk_ofG {l : PySem.W.OpenLaw} {n k : Nat} {q : Program} {loose : List Str} {XP : (Str → Option Value) → Heap → Prop} {YP : World → Heap → Prop} {d : DefRec} {K : Params → PySem.W.Frag} {CX : World → CXT} {sp : World → Sp} {x : Str}
    (hn : l.most = some n) (hn2 : n ≤ sizeLine) (hdf : d.params.defaults = []) (hr : Room k callerA) (hY : ∀ (w : World) (h : Heap), YP w h → (K w.params).In h)
    (F : ∀ (w : World) (mg : Str → Option Value) (fa : Addr) (h : Heap), (K w.params).In h → h.Ns mainGlobals mg → mg d.name = some (.ref fa) →
      ∃ fd : FuncData, (∀ (s : Shared) (u : Value), BindsTo s fd ⟨[u], []⟩ [(x, u)]) ∧ ∀ base : Heap, (K w.params).In base → base.Ns mainGlobals mg → FnOkG l.prog w (K w.params) mg base (CX w) k fa fd [x] (sp w))
    (hsp : ∀ (w : World) (H : Hp) (a : Addr) (ns : List Int), ns.length ≤ n → (∀ z ∈ ns, Builtin.Int.intBits z ≤ 1048576) → Only H → SqL (K w.params) H a (ns.map V.int) → sp w [.ref a] H (fun v _ => v = .bl true) fun _ _ _ => False)
    (hCX : ∀ (w : World) (H : Hp) (s : Shared) (e : Value) (s' : Shared), CX w [] H s (fun _ _ _ => False) e s' → False) : PySem.W.WalkO q loose XP YP l.row.toRowW d [] (fun f vs => PySem.call f vs) := by
  refine Att.attach_callB hn hdf fun w s₀ s₁ mg mb fa o pm cd doc a vs ns G Y ho hd hcd hmg hobj hints hlen hbits hg => ?_
  obtain ⟨fd, hb, hF⟩ := F w mg fa _ (hY w _ Y) G.T.g hmg
  exact law_callG (hY w _ Y) G.T.g G.T.b G.T.builtins G.T.nolimit hg hobj hints (Nat.le_trans hlen hn2) hr hF hb (fun H hO hS => hsp w H a ns hlen hbits hO hS) fun H e s' => hCX w H s₁ e s'
end
/-! ### a def with a repr in it -/
section
variable {P : Program} {w : World} {K : PySem.W.Frag} {mg : Str → Option Value} {base : Heap} {k : Nat} {x qual : Str} {st : Stmt} {dv : List V} {f : Addr} {fd : FuncData} {N ps : List Str} {mb : Env → IH → RS}
abbrev BodyOkG (P : Program) (w : World) (K : PySem.W.Frag) (mg : Str → Option Value) (base : Heap) (k : Nat) (N : List Str) (qual : Str) (st : Stmt) (f : Addr) (mb : Env → IH → RS) : Prop :=
  ∀ (cdv : Value) (A : Around) (outer : List PySem.Env) (s : Shared) (H : Hp) (E : XK), (cxOf (L2.CX P w) P w K mg base N qual (defScope st) f cdv A outer s H E).A.guards = some [] → Room k (cxOf (L2.CX P w) P w K mg base N qual (defScope st) f cdv A outer s H E).A →
    Takes (cxOf (L2.CX P w) P w K mg base N qual (defScope st) f cdv A outer s H E) (fun cls d _ H => E cls d H) →
    PassesOwn (model P w) (cxOf (L2.CX P w) P w K mg base N qual (defScope st) f cdv A outer s H E).A (cxOf (L2.CX P w) P w K mg base N qual (defScope st) f cdv A outer s H E).env (cxOf (L2.CX P w) P w K mg base N qual (defScope st) f cdv A outer s H E).xe →
    (cxOf (L2.CX P w) P w K mg base N qual (defScope st) f cdv A outer s H E).A.units + 64 < cLine →
    PSs (cxOf (L2.CX P w) P w K mg base N qual (defScope st) f cdv A outer s H E) (defBody st) (tMS K (fun cls d _ H => E cls d H) mb)
theorem df_fnG (F : FunD K x qual (defArgs st) (defBody st) (defScope st) dv [] f fd) (S : FnScope N ps (defScope st)) (hbody : BodyOkG P w K mg base k N qual st f mb) : FnOkG P w K mg base (L2.CX P w) (k + 1) f fd ps (spM K ps.length (defRun N.length mb)) := by
  obtain ⟨oc, od, dV, kV, doc, pm, an, cdv, ct, osl, rfl, lk, hcd, _, _⟩ := F.ex
  refine ⟨fun vs H Q E ⟨r, ih, args, e, _, rs, _⟩ => rs.length ▸ e, fun A outer s H args us vs Q E hg hr e0 hb hv ⟨r, ih, args', e, hrel, rs, q⟩ => ?_⟩
  refine LamX.run_ofS lk hcd S hr e0 hb hv (rs.length ▸ e) fun hr' => ⟨_, hbody cdv A outer s H E hg hr' (takes_of rfl rfl rfl rfl) (passes_of rfl) (by
    have hu := hr'.un
    show (A.deeper (envOfC qual (defScope st) s.heap.objs.size f cdv)).units + 64 < cLine
    omega), r, ih, _, hrel, start_rel rs, ?_⟩
  unfold defRun at q
  cases z : mb (startI N.length args') ih with
  | ok fl ih2 =>
    rw [z] at q
    cases fl with
    | ret v => exact q
    | next env => exact fun r' H' σ' p hr' he' => q r' H' .non p hr' rfl
    | brk env => exact q.elim
    | cont env => exact q.elim
  | exc c env ih2 =>
    rw [z] at q
    exact fun r' H' σ' p hr' he' => q r' H' p hr'
  | stuck => rw [z] at q; exact q
end
end L3
/-! L3A: lambdas without parameters, kept as objects. -/
namespace L3
variable [TabT]
open PySem PySem.Spec PyProof.Rows L2
section
variable {X : Cx} {pins : List (Addr × Obj)} {σ : L2.St} {H : Hp} {s : Shared}
/-- a function object just made is told from now on -/
theorem inv_lam {D : LamD} {c : Addr} {t' : Nat} {pm ctv : Value} (I : L2.Inv X pins σ H s) :
    L2.Inv X pins σ (upd H s.heap.objs.size (LamO s.heap.objs.size D c)) { s with heap := s.heap.push (PySem.W.kla_obj "<lambda>" D.qual D.params D.body D.scope D.cl pm c ctv), toks := t' } :=
  I.laid (a := s.heap.objs.size) (fun b u e => Heap.get?_push_of_some _ e) (Nat.le_refl _) ⟨⟨pm, ctv, Heap.get?_push_size _ rfl⟩, ⟨_, Heap.get?_push_size _ rfl⟩, fun h1 h2 ⟨pm, ctv, z⟩ st => ⟨pm, ctv, st _ z⟩⟩
theorem lamO_ne {a c : Addr} {D : LamD} (ps : Array Value) : LamO a D c ≠ .tbl ps := fun z => by
  unfold LamO at z
  cases z
/-- a lambda is made, and told -/
theorem lam_makeT {c P : Addr} {params : Arguments} {body : Expr} {scope : Scope} {pos : Pos} {E : Value → Shared → Prop} {Q : Value → Shared → Prop} (I : L2.Inv X pins σ H s) (TB : LamX.TabB X.base X.mg c P) (hcode : X.env.code = .ref c)
    (hm : (P, X.env.qual ++ "<lambda>") ∈ TabT.T) (hu : ∀ p ∈ TabT.T, p.1 = P → p.2 = X.env.qual ++ "<lambda>") (hT : LamX.Tabs TabT.T H) (hdef : defaultsOf params X.env = ([], [])) (hfree : ∀ y ∈ scope.names, y.2 = .free → ∃ c, X.env.cells.lookup y.1 = some c)
    (h : ∀ (f c' : Addr) (H1 : Hp) (s' : Shared), L2.Inv X pins σ H1 s' → LamX.ExtN H H1 → LamX.Tabs TabT.T H1 → H f = none → H1 f = some (LamO f ⟨X.env.qual ++ "<lambda>", params, body, scope, cloFrom X.env.cells scope.names []⟩ c') → H1 c' = some (LamX.CodeO c' (X.env.qual ++ "<lambda>")) → Q (.ref f) s') :
    wpAny (model X.prog X.w) X.A (eval (.Lambda params body scope pos) X.env) Q E s := by
  obtain ⟨ps, hP, ht, ha⟩ := hT _ hm
  have bP : s.heap.BuiltinsAt X.mg P := TB.bm.keeps I.bk
  have hP' : s.heap.get? P = some { cls := .none, data := .fields ps } := I.hok P _ hP
  refine PySem.W.kla_eval hdef ?_
  -- told, and the step behind the code object
  have told : ∀ {c' : Addr} {H1 : Hp} {s1 : Shared} {tk : Nat} {pm ctv : Value}, L2.Inv X pins σ H1 s1 → LamX.ExtN H H1 → LamX.Tabs TabT.T H1 → s.heap.objs.size ≤ s1.heap.objs.size → H1 c' = some (LamX.CodeO c' (X.env.qual ++ "<lambda>")) →
      Q (.ref s1.heap.objs.size) { s1 with heap := s1.heap.push (PySem.W.kla_obj "<lambda>" (X.env.qual ++ "<lambda>") params body scope (cloFrom X.env.cells scope.names []) pm c' ctv), toks := tk } := fun {c' H1 s1 tk pm ctv} I1 hE hT1 hz hc => by
    have nF : H1 s1.heap.objs.size = none := I1.hok.fresh (Nat.le_refl _)
    have up : ∀ {b : Addr} {u : HO}, H1 b = some u → upd H1 s1.heap.objs.size (LamO s1.heap.objs.size ⟨X.env.qual ++ "<lambda>", params, body, scope, cloFrom X.env.cells scope.names []⟩ c') b = some u := fun {b u} e => (upd_ne (ne_of_none e nF)).trans e
    exact h _ c' _ _ (inv_lam (D := ⟨X.env.qual ++ "<lambda>", params, body, scope, cloFrom X.env.cells scope.names []⟩) (c := c') (t' := tk) (pm := pm) (ctv := ctv) I1) (fun b o e n => up (hE b o e n)) (hT1.ext fun b o e => up e) (I.hok.fresh hz) upd_same (up hc)
  cases hc : codeAmong pos ps.toList with
  | none =>
    refine PySem.W.kla_makeFunction (mg := X.mg) (c := c) (P := P) (ps := ps) (closure_ok hfree) I.ok.glob (I.mod.glob.keeps I.bk) hcode (TB.code.keeps I.bk) hP' ht hc TB.gP bP fun c' ctv h' tk hx hge hlt hrec htb => ?_
    obtain ⟨c2, oc, vs, t, e2, hoc, hd, hv⟩ := hrec
    cases e2
    have nC : H c' = none := I.hok.fresh hge
    have I1 := LamX.inv_table (t' := tk) (more := #[rawInt pos.line, rawInt pos.col, .ref c']) (h' := h') I hP (fun b o hb e => hx b o hb e) htb hge ⟨oc, vs, t, hoc, hd, hv⟩
    have hE : LamX.ExtN H (upd (upd H P (.tbl (ps ++ #[rawInt pos.line, rawInt pos.col, .ref c']))) c' (LamX.CodeO c' (X.env.qual ++ "<lambda>"))) := fun b o e n => by
      rw [upd_ne (ne_of_none e nC), upd_ne (fun z => n ps (Option.some.inj (e.symm.trans (by rw [z]; exact hP))))]
      exact e
    refine told I1 hE (fun p hp => ?_) (Nat.le_trans hge (Nat.le_of_lt hlt)) upd_same
    by_cases hb : p.1 = P
    · rw [hu p hp hb, hb]
      have eL : (ps ++ #[rawInt pos.line, rawInt pos.col, .ref c']).toList = ps.toList ++ [rawInt pos.line, rawInt pos.col, .ref c'] := by simp
      refine ⟨_, by rw [upd_ne (ne_of_none hP nC), upd_same], by rw [eL]; exact PySem.TriplesOk_snoc _ _ _ _ ht, fun p' cv hcv => ?_⟩
      rw [eL] at hcv
      rcases LamX.among_app _ ht hcv with z | z
      · obtain ⟨c0, e1, e2⟩ := ha p' cv z
        exact ⟨c0, e1, hE _ _ e2 LamX.codeO_ne⟩
      · exact ⟨c', z, upd_same⟩
    · obtain ⟨ps', a1, a2, a3⟩ := hT p hp
      refine ⟨ps', by rw [upd_ne (ne_of_none a1 nC), upd_ne hb]; exact a1, a2, fun p' cv hcv => ?_⟩
      obtain ⟨c0, e1, e2⟩ := a3 p' cv hcv
      exact ⟨c0, e1, hE _ _ e2 LamX.codeO_ne⟩
  | some cv =>
    obtain ⟨c', e, hco⟩ := ha pos cv hc
    subst e
    refine PySem.W.kla_makeFunctionHit (mg := X.mg) (c := c) (P := P) (ps := ps) (closure_ok hfree) I.ok.glob (I.mod.glob.keeps I.bk) hcode (TB.code.keeps I.bk) hP' ht hc bP fun ctv h' tk hx hsz => ?_
    exact told (s1 := { s with heap := h', toks := tk }) (I.kept hx) (LamX.ExtN.refl H) hT hsz hco
end
/-! ### the mirror -/
section
variable [LamT]
def m_lam (e0 j : Nat) (_ : Env) (ih : IH) : Res IV := if e0 ≤ ih.length then .ok (.ref ih.length) (ih ++ [.fn e0 j]) else .stuck
theorem Rel.lamF {K : PySem.W.Frag} {r : List Addr} {ih : IH} {H H2 : Hp} {f c' : Addr} {e0 j : Nat} {D : LamD} (h : Rel K r ih H) (e : LamX.ExtN H H2) (t : LamX.Tabs TabT.T H2) (he : e0 ≤ ih.length) (hD : LamT.fn e0 j = some D) (hf : H2 f = some (LamO f D c')) (hc : H2 c' = some (LamX.CodeO c' D.qual)) :
    Rel K (r ++ [f]) (ih ++ [.fn e0 j]) H2 := by
  have low : ∀ {n : Nat} {b : Addr} {o : MO}, (r ++ [f])[n]? = some b → (ih ++ [MO.fn e0 j])[n]? = some o → (r[n]? = some b ∧ ih[n]? = some o) ∨ (o = .fn e0 j ∧ b = f) := fun {n b o} e1 e2 => by
    by_cases hn : n < r.length
    · rw [List.getElem?_append_left hn] at e1
      rw [List.getElem?_append_left (by rw [← h.len]; exact hn)] at e2
      exact .inl ⟨e1, e2⟩
    · right
      rw [List.getElem?_append_right (by rw [← h.len]; omega)] at e2
      rw [List.getElem?_append_right (by omega)] at e1
      have hz : n - ih.length = 0 := by
        cases hz : n - ih.length with
        | zero => rfl
        | succ m => rw [hz] at e2; cases e2
      rw [hz] at e2
      rw [h.len, hz] at e1
      exact ⟨(Option.some.inj e2).symm, (Option.some.inj e1).symm⟩
  refine ⟨by rw [List.length_append, List.length_append, h.len]; rfl, fun n a o e1 e2 => ?_, fun n m a o u e1 e2 e3 e4 s1 s2 => ?_, t, h.pre.trans ⟨[f], rfl⟩, fun p hp => e _ _ (h.cod p hp) (fun ps y => by unfold LamX.CodeO at y; cases y), fun n e' j' g => ?_, fun e' j' g => h.top e' j' (by rw [List.length_append] at g; omega)⟩
  · rcases low e1 e2 with ⟨g1, g2⟩ | ⟨g1, g2⟩
    · exact ((h.get n a o g1 g2).stays e).mono ⟨[f], rfl⟩
    · subst g1
      subst g2
      intro D' hD'
      rw [hD] at hD'
      cases hD'
      exact ⟨c', hf, hc⟩
  · rcases low e1 e3 with ⟨g1, g3⟩ | ⟨g, _⟩
    · rcases low e2 e4 with ⟨g2, g4⟩ | ⟨g, _⟩
      · exact h.inj n m a o u g1 g2 g3 g4 s1 s2
      · subst g
        cases s2
    · subst g
      cases s1
  · by_cases hn : n < ih.length
    · rw [List.getElem?_append_left hn] at g
      exact h.ep n e' j' g
    · rw [List.getElem?_append_right (by omega)] at g
      cases hz : n - ih.length with
      | zero => rw [hz] at g; cases g; omega
      | succ m => rw [hz] at g; cases g
/-- lambda: body -/
theorem lm_lam {X : Cx} {W : WX} {c P : Addr} {e0 j : Nat} {params : Arguments} {body : Expr} {scope : Scope} {pos : Pos} (M : MkL X.base X.mg c P (X.env.qual ++ "<lambda>")) (hcode : X.env.code = .ref c) (L : LamX.LamS X.env.scope scope) (hdef : defaultsOf params X.env = ([], []))
    (hD : LamT.fn e0 j = some ⟨X.env.qual ++ "<lambda>", params, body, scope, cloFrom X.env.cells scope.names []⟩) : PE X (.Lambda params body scope pos) (tM X.K W (m_lam e0 j)) := by
  refine ⟨fun pins s σ H Q I ⟨r, ih, env, hr, he, q⟩ => ?_⟩
  unfold m_lam at q
  split at q
  · rename_i hl
    refine lam_makeT I M.tb hcode M.mem M.one hr.tab hdef (L.has I.ok) fun f c' H1 s' I1 eN T1 nf hf hc => ?_
    refine ⟨.ref f, H1, I1, rfl, q (r ++ [f]) H1 (.ref f) ⟨[f], rfl⟩ (hr.lamF eN T1 hl hD hf hc) ⟨f, ?_, rfl⟩⟩
    rw [← hr.len, List.getElem?_append_right (Nat.le_refl _), Nat.sub_self]
    rfl
  · exact q.elim
end
/-! ### the maker is entered, and left -/
/-- the table of a maker entered at the heap's length n0 -/
@[reducible] def LamT.into (I : LamT) (n0 : Nat) (T : Nat → Option LamD) : LamT := ⟨I.r0, I.cs, fun e j => if e = n0 then T j else I.fn e j⟩
theorem RO.inst {I0 I1 : LamT} {K : PySem.W.Frag} {r : List Addr} {H : Hp} {a : Addr} {o : MO} (h : @RO I0 K r H a o) (e : ∀ e j D, o = .fn e j → I1.fn e j = some D → I0.fn e j = some D) : @RO I1 K r H a o := by
  cases o with
  | fn e' j => exact fun D hD => h D (e e' j D rfl hD)
  | _ => exact h
theorem Rel.enter {I0 : LamT} {K : PySem.W.Frag} {r : List Addr} {ih : IH} {H : Hp} (h : @Rel _ I0 K r ih H) (f : Addr) (T : Nat → Option LamD) : @Rel _ (I0.into ih.length T) K (r ++ [f]) (ih ++ [.clo]) H := by
  have low : ∀ {n : Nat} {b : Addr} {o : MO}, (r ++ [f])[n]? = some b → (ih ++ [MO.clo])[n]? = some o → (n < ih.length ∧ r[n]? = some b ∧ ih[n]? = some o) ∨ o = .clo := fun {n b o} e1 e2 => by
    by_cases hn : n < r.length
    · rw [List.getElem?_append_left hn] at e1
      rw [List.getElem?_append_left (by rw [← h.len]; exact hn)] at e2
      exact .inl ⟨by rw [← h.len]; exact hn, e1, e2⟩
    · right
      rw [List.getElem?_append_right (by rw [← h.len]; omega)] at e2
      cases hz : n - ih.length with
      | zero => rw [hz] at e2; exact (Option.some.inj e2).symm
      | succ j => rw [hz] at e2; cases e2
  refine @Rel.mk _ (I0.into ih.length T) _ _ _ _ (by rw [List.length_append, List.length_append, h.len]; rfl) (fun n a o e1 e2 => ?_) (fun n m a o u e1 e2 e3 e4 s1 s2 => ?_) h.tab (h.pre.trans ⟨[f], rfl⟩) (fun p hp => h.cod p hp) (fun n e j g => ?_) fun e j g => ?_
  · rcases low e1 e2 with ⟨hn, g1, g2⟩ | g
    · refine @RO.mono _ (I0.into ih.length T) _ _ _ _ ⟨[f], rfl⟩ _ _ (RO.inst (h.get n a o g1 g2) fun e j D eo hD => ?_)
      subst eo
      have := h.ep n e j g2
      have hD' : (if e = ih.length then T j else I0.fn e j) = some D := hD
      rw [if_neg (by omega)] at hD'
      exact hD'
    · subst g
      trivial
  · rcases low e1 e3 with ⟨_, g1, g3⟩ | g
    · rcases low e2 e4 with ⟨_, g2, g4⟩ | g
      · exact h.inj n m a o u g1 g2 g3 g4 s1 s2
      · subst g
        cases s2
    · subst g
      cases s1
  · by_cases hn : n < ih.length
    · rw [List.getElem?_append_left hn] at g
      exact h.ep n e j g
    · rw [List.getElem?_append_right (by omega)] at g
      cases hz : n - ih.length with
      | zero => rw [hz] at g; cases g
      | succ m => rw [hz] at g; cases g
  · rw [List.length_append] at g
    show (if e = ih.length then T j else I0.fn e j) = none
    rw [if_neg (by simp at g; omega)]
    exact h.top e j (by omega)
theorem Rel.leave {I0 : LamT} {K : PySem.W.Frag} {r : List Addr} {ih : IH} {H : Hp} {n0 : Nat} {T : Nat → Option LamD} (h : @Rel _ (I0.into n0 T) K r ih H) (t : ∀ j, I0.fn n0 j = none) : @Rel _ I0 K r ih H := by
  obtain ⟨h1, h2, h3, h4, h5, h6, h7, h8⟩ := h
  refine @Rel.mk _ I0 _ _ _ _ h1 (fun n a o e1 e2 => RO.inst (h2 n a o e1 e2) fun e j D eo hD => ?_) h3 h4 h5 (fun p hp => h6 p hp) h7 fun e j g => ?_
  · show (if e = n0 then T j else I0.fn e j) = some D
    by_cases hn : e = n0
    · subst hn
      rw [t j] at hD
      cases hD
    · rw [if_neg hn]
      exact hD
  · by_cases hn : e = n0
    · rw [hn]
      exact t j
    · have := h8 e j g
      have h2 : (if e = n0 then T j else I0.fn e j) = none := this
      rw [if_neg hn] at h2
      exact h2
/-- a maker's run: its body is told the heap's length at the entry -/
def defRunF (N : Nat) (mb : Nat → Env → IH → RS) (args : List IV) (ih : IH) : Res IV := (mb ih.length (startI N args) (ih ++ [.clo])).out
/-- the lambdas of a def, in the order of the text -/
abbrev LamW := Arguments × Expr × Scope
def tabOf (qual : Str) (cells : List (Str × Addr)) (ws : List LamW) (j : Nat) : Option LamD := (ws[j]?).map fun w => ⟨qual, w.1, w.2.1, w.2.2, cloFrom cells w.2.2.names []⟩
section
variable {P : Program} {w : World} {K : PySem.W.Frag} {mg : Str → Option Value} {base : Heap} {k : Nat} {x qual : Str} {st : Stmt} {f : Addr} {fd : FuncData} {N ps : List Str}
theorem df0F [I0 : LamT] {c : Addr} {mb : Nat → Env → IH → RS} {ws : List LamW} (F : FunD K x qual (defArgs st) (defBody st) (defScope st) [] [] f fd) (hc : fd.code = .ref c) (S : FnScope N ps (defScope st)) (hm : mg x = some (.ref f))
    (h : ∀ (kV doc pm : Value) (an : Option Addr) (cdv ct : Value) (us : List Value), us.length = ps.length → bindArgs (PySem.W.fnOf x qual (defArgs st) (defBody st) (defScope st) .none kV doc pm an cdv ct) ⟨us, []⟩ = pure (ps.zip us))
    (hbody : ∀ (I : LamT) (e0 : Nat) (A : Around) (outer : List PySem.Env) (s : Shared) (H : Hp) (E : XK),
      (∀ j, I.fn e0 j = tabOf ((cxOf (L2.CX P w) P w K mg base N qual (defScope st) f (.ref c) A outer s H E).env.qual ++ "<lambda>") (cxOf (L2.CX P w) P w K mg base N qual (defScope st) f (.ref c) A outer s H E).env.cells ws j) →
      Room k (cxOf (L2.CX P w) P w K mg base N qual (defScope st) f (.ref c) A outer s H E).A →
      Takes (cxOf (L2.CX P w) P w K mg base N qual (defScope st) f (.ref c) A outer s H E) (fun cls d _ H => E cls d H) →
      PassesOwn (model P w) (cxOf (L2.CX P w) P w K mg base N qual (defScope st) f (.ref c) A outer s H E).A (cxOf (L2.CX P w) P w K mg base N qual (defScope st) f (.ref c) A outer s H E).env (cxOf (L2.CX P w) P w K mg base N qual (defScope st) f (.ref c) A outer s H E).xe →
      (cxOf (L2.CX P w) P w K mg base N qual (defScope st) f (.ref c) A outer s H E).A.units + 64 < cLine →
      PSs (cxOf (L2.CX P w) P w K mg base N qual (defScope st) f (.ref c) A outer s H E) (defBody st) (@tMS _ I K (fun cls d _ H => E cls d H) (mb e0))) : Df P w K mg base (k + 1) x ps.length [] (defRunF N.length mb) := by
  refine ⟨fun _ h => (nomatch h), f, fd, ps, rfl, hm, F.kp, ?_, fun j _ => ⟨[], by rw [List.drop_nil]; exact .nil, F.bindsN h⟩⟩
  obtain ⟨oc, od, dV, kV, doc, pm, an, cdv, ct, osl, rfl, lk, hcd, _, _⟩ := F.ex
  have hc' : cdv = .ref c := hc
  subst hc'
  refine fn_of lk hcd S (fun vs H Q E ⟨r, ih, args, e, _, rs, _⟩ => rs.length ▸ e) fun A outer s H vs Q E hr ⟨r, ih, args, e, hrel, rs, q⟩ => ⟨_, hbody (I0.into ih.length (tabOf ((cxOf (L2.CX P w) P w K mg base N qual (defScope st) f (.ref c) A outer s H E).env.qual ++ "<lambda>") (cxOf (L2.CX P w) P w K mg base N qual (defScope st) f (.ref c) A outer s H E).env.cells ws)) ih.length A outer s H E (fun j => if_pos rfl) hr (takes_of rfl rfl rfl rfl) (passes_of rfl) (by
    have hu := hr.un
    show (A.deeper (envOfC qual (defScope st) s.heap.objs.size f (.ref c))).units + 64 < cLine
    omega), r ++ [f], ih ++ [.clo], startI N.length args, hrel.enter f _, start_rel (rs.mono ⟨[f], rfl⟩), ?_⟩
  have t := fun j => hrel.top ih.length j (Nat.le_refl _)
  unfold defRunF at q
  cases z : mb ih.length (startI N.length args) (ih ++ [.clo]) with
  | ok fl ih2 =>
    rw [z] at q
    cases fl with
    | ret v => exact fun r' H' u p hr' hv => q r' H' u (pre_trans ⟨[f], rfl⟩ p) (hr'.leave t) hv
    | next env => exact fun r' H' σ' p hr' he' => q r' H' .non (pre_trans ⟨[f], rfl⟩ p) (hr'.leave t) rfl
    | brk env => exact q.elim
    | cont env => exact q.elim
  | exc c' env ih2 =>
    rw [z] at q
    exact fun r' H' σ' p hr' he' => q r' H' (pre_trans ⟨[f], rfl⟩ p) (hr'.leave t)
  | stuck => rw [z] at q; exact q
end
end L3
/-! L3B: calls of lambdas without parameters. -/
namespace L3
variable [TabT]
open PySem PySem.Spec PyProof.Rows L2
/-- x(), the slot i holds a lambda -/
def m_call0 (i : Nat) (lams : Nat → Nat → IH → Res IV) (env : Env) (ih : IH) : Res IV := match env[i]? with
  | some (some (.ref n)) => match ih[n]? with
    | some (.fn e j) => lams e j ih
    | _ => .stuck
  | _ => .stuck
section
variable {X : Cx} {pins : List (Addr × Obj)} {σ : L2.St} {H HZ : Hp} {s s1 : Shared} {scope : Scope}
/-- the lambda's frame, entered from the frames outer -/
theorem lam_enter0 {A : Around} {outer : List PySem.Env} {E : XK} {f c' : Addr} {h₁ : Heap} {tk : Nat} (I : L2.Inv X pins σ H s) (L : LamX.LamS X.env.scope scope) (e0 : Env0 X.prog X.w X.K X.mg X.base A outer s1 HZ) (hd : A.handled = none)
    (un : ∀ z c v, X.env.cells.lookup z = some c → s.heap.IsCell c v → s1.heap.IsCell c v ∧ HZ c = none) (hns : h₁.Ns s1.heap.objs.size fun z => ([] : List (Str × Value)).reverse.lookup z) (kp : ∀ b o, s1.heap.get? b = some o → h₁.get? b = some o) :
    L2.Inv (LamX.lamCx X A outer s1 HZ E scope f c') [] σ HZ { s1 with heap := h₁, toks := tk } := by
  have hfree := L.has I.ok
  have inX : ∀ {z : Str} {c : Addr}, (cloFrom X.env.cells scope.names []).lookup z = some c → X.env.cells.lookup z = some c := fun {z c} e => by
    rcases cloFrom_mem (PySem.mem_of_lookup e) with hm | ⟨h1, h2⟩
    · cases hm
    · obtain ⟨c1, hc⟩ := hfree _ h1 rfl
      have hc' : X.env.cells.lookup z = some c1 := hc
      have ec : c = c1 := by
        rw [h2, hc'] <;> rfl
      rw [ec]
      exact hc'
  have got : ∀ {z : Str}, scope.names.lookup z = some .free → ∃ c, (cloFrom X.env.cells scope.names []).lookup z = some c := fun {z} hl =>
    mem_lookup (cloFrom_has (cells := X.env.cells) (acc := []) (show (z, NameKind.free) ∈ scope.names from PySem.mem_of_lookup hl))
  have held : ∀ {z : Str} {c : Addr} {v : Option Value}, X.env.cells.lookup z = some c → s.heap.IsCell c v → h₁.IsCell c v := fun {z c v} n q => by
    obtain ⟨o, ho, hdat⟩ := (un z c v n q).1
    exact ⟨o, kp _ _ ho, hdat⟩
  have noA : ∀ b : Addr, b ∉ (LamX.lamCx X A outer s1 HZ E scope f c').ex := fun b z => absurd (show b ∈ ([] : List Addr) from z) (by simp)
  have okL : (LamX.lamCx X A outer s1 HZ E scope f c').Ok := {
    mod := e0.mod
    kind := L.kind
    glob := rfl
    blt := rfl
    above := Nat.le_refl _
    inj := fun y1 y2 c e1 e2 => I.ok.inj y1 y2 c (inX e1) (inX e2)
    has := fun z hz => (show scope.names.lookup z = some .cell ∨ scope.names.lookup z = some .free from hz).elim (fun k => absurd rfl (L.own _ (PySem.mem_of_lookup k)).2) fun k => got k
    cab := fun z c hz _ => absurd (show false = true from hz) Bool.false_ne_true
    hd := fun _ => hd
    frames := Around.frames_deeper e0.frames
    stk := .inr ⟨rfl, rfl⟩
    exf := fun b z => absurd z (noA b)
    bs := e0.bs
    bsz := e0.bsz
    noex := fun b _ _ => noA b
    exfs := fun b z => absurd z (noA b)
    funs := e0.funs
    frf := e0.frf }
  refine ⟨okL, rfl, e0.bare, Un.kept kp, ⟨_, hns, fun i z v e1 e2 e3 => ?_⟩, fun z c e => ?_, e0.hok.fresh (Nat.le_refl _), fun z c e => ?_, fun q hq => absurd (show q ∈ ([] : List (Addr × Obj)) ++ [] from hq) (by simp), e0.hok.kept kp, I.len⟩
  · have e1' : X.N[i]? = some z := e1
    have e3' : Vis scope z := e3
    rcases e3' with k | k | k
    · exact absurd rfl (L.own _ (PySem.mem_of_lookup k)).1
    · exact absurd rfl (L.own _ (PySem.mem_of_lookup k)).2
    · obtain ⟨m, hn, hl⟩ := I.loc
      have sees := L.free _ (PySem.mem_of_lookup k) rfl
      obtain ⟨w', rw', q⟩ := hl i z v e1' e2 (sees.elim (fun k2 => .inr (.inl k2)) fun k2 => .inr (.inr k2))
      obtain ⟨c2, h2⟩ := got k
      refine ⟨w', rw', .inr ⟨.inr k, c2, h2, ?_⟩⟩
      have c1 := inX h2
      rcases q with ⟨k', _⟩ | ⟨_, c3, e', zc⟩
      · have k2' : X.env.scope.names.lookup z = some .local := k'
        rcases sees with k2 | k2
        · have k3 : X.env.scope.names.lookup z = _ := k2
          rw [k3] at k2'
          cases k2'
        · have k3 : X.env.scope.names.lookup z = _ := k2
          rw [k3] at k2'
          cases k2'
      · rw [c1] at e'
        cases e'
        exact held c1 zc
  · obtain ⟨w', zc⟩ := I.cell z c (inX e)
    exact ⟨w', held (inX e) zc⟩
  · obtain ⟨v, zc⟩ := I.cell z c (inX e)
    exact (un z c v (inX e) zc).2
end
section
variable [LamT] {X : Cx} {pins : List (Addr × Obj)} {σ : L2.St} {H : Hp} {s : Shared}
/-- the context of a def, entered at s from X; base2: what is known to stay there -/
abbrev ZxE (X : Cx) (base2 : Heap) (Ng : List Str) (qg : Str) (sg : Scope) (g : Addr) (cdg : Value) (s : Shared) (H : Hp) (Eg : XK) : Cx := cxOf (L2.CX X.prog X.w) X.prog X.w X.K X.mg base2 Ng qg sg g cdg X.A X.stack s H Eg
/-- what a lambda of the maker X does -/
structure LamOk (X : Cx) (k : Nat) (D : LamD) (ml : Env → IH → Res IV) : Prop where
  qual : D.qual = X.env.qual ++ "<lambda>"
  cl : D.cl = cloFrom X.env.cells D.scope.names []
  sc : LamX.LamS X.env.scope D.scope
  bind : ∀ (pm cv ctv : Value), bindArgs (PySem.W.kla_fn "<lambda>" D.qual D.params D.body D.scope D.cl pm cv ctv) ⟨[], []⟩ = pure []
  run : ∀ (A : Around) (outer : List PySem.Env) (s' : Shared) (H' : Hp) (f c' : Addr) (E : XK), Room k (A.deeper (LamX.lamEnv X D.scope s'.heap.objs.size f c')) → PE (LamX.lamCx X A outer s' H' E D.scope f c') D.body (tM X.K (fun cls d _ H => E cls d H) ml)
abbrev ActOk0 (Z : Cx) (i : Nat) (a : Str) (lams : Nat → Nat → IH → Res IV) : Prop :=
  ∀ {s0 : Shared} {H0 : Hp} {env : PySem.Env} {outer : List PySem.Env} {ex : List Addr} {fn : Str → Bool} {calm : Bool} {pn : List (Addr × Obj)} {xe : Value → Shared → Prop} {p1 p2 : Pos} {W : WX},
    Takes (Zin Z s0 H0 env outer ex fn calm pn xe) W → Vis env.scope a → PE (Zin Z s0 H0 env outer ex fn calm pn xe) (.Call (.Name a p1) [] [] p2) (tM Z.K W (m_call0 i lams))
theorem act_ok0 {pinsM : List (Addr × Obj)} {σM : L2.St} {HM : Hp} {sM : Shared} {base2 : Heap} {Ng : List Str} {qg : Str} {sg : Scope} {g : Addr} {cdg : Value} {Eg : XK} {k i e0 : Nat} {a : Str} {ml : Nat → Env → IH → Res IV} {env0 : Env}
    (I : L2.Inv X pinsM σM HM sM) (hL : ∀ j, (∃ D, LamT.fn e0 j = some D ∧ LamOk X k D (ml j)) ∨ ∀ env ih, ml j env ih = .stuck) (he0 : REnv LamT.r0 env0 σM)
    (hcl : ∀ z c o, X.env.cells.lookup z = some c → sM.heap.get? c = some o → base2.get? c = some o) (hb2 : ∀ b o, X.base.get? b = some o → base2.get? b = some o) (hz2 : X.base.objs.size ≤ base2.objs.size)
    (hr : Room (k + 1) (X.A.deeper (envOfC qg sg s.heap.objs.size g cdg)))
    (hNg : Ng[i]? = some a) (hd : (a == ("__debug__" : Str)) = false := by decide) (hcd : (a == ("__classdict__" : Str)) = false := by decide) : ActOk0 (ZxE X base2 Ng qg sg g cdg s H Eg) i a (fun e j ih => if e = e0 then ml j env0 ih else .stuck) := by
  intro s0 H0 env1 outer ex fn calm pn xe p1 p2 W tkz hv
  generalize hZ : Zin (ZxE X base2 Ng qg sg g cdg s H Eg) s0 H0 env1 outer ex fn calm pn xe = Z at tkz ⊢
  have zb : Z.base = base2 := by rw [← hZ]; rfl
  have zA : Z.A = X.A.deeper (envOfC qg sg s.heap.objs.size g cdg) := by rw [← hZ]; rfl
  have zs : Z.stack = envOfC qg sg s.heap.objs.size g cdg :: X.stack := by rw [← hZ]; rfl
  have zN : Z.N = Ng := by rw [← hZ]; rfl
  have zp : Z.prog = X.prog := by rw [← hZ]; rfl
  have zw : Z.w = X.w := by rw [← hZ]; rfl
  have zK : Z.K = X.K := by rw [← hZ]; rfl
  have zm : Z.mg = X.mg := by rw [← hZ]; rfl
  have zv : Vis Z.env.scope a := by rw [← hZ]; exact hv
  show PE Z (.Call (.Name a p1) [] [] p2) (tM X.K W (m_call0 i fun e j ih => if e = e0 then ml j env0 ih else .stuck))
  clear hZ
  obtain ⟨Zprog, Zw, ZK, Zmg, Zbase, ZA, ZN, Zs0, ZH0, Zenv, Zouter, Zstack, Zex, Zfn, Zcalm, Zpn, Zxe⟩ := Z
  dsimp only at zb zA zs zN zp zw zK zm zv
  replace zb := zb.symm
  subst zb
  subst zA
  subst zs
  replace zN := zN.symm
  subst zN
  subst zp
  subst zw
  subst zK
  subst zm
  refine ⟨fun pinsZ sZ σZ HZ Q IZ ⟨r, ih, env, hrl, hen, q⟩ => ?_⟩
  unfold m_call0 at q
  split at q
  · rename_i m hm
    split at q
    · rename_i e j hfn
      dsimp only at q
      by_cases he : e = e0
      · subst he
        rw [if_pos rfl] at q
        rcases hL j with ⟨D, hD, ok⟩ | hN
        rotate_left
        · rw [hN] at q
          exact q.elim
        obtain ⟨Dq, Dp, Db, Ds, Dc⟩ := D
        obtain ⟨ok1, ok2, ok3, ok4, ok5⟩ := ok
        dsimp only at ok1 ok2 ok3 ok4 ok5
        subst ok1
        subst ok2
        obtain ⟨u0, hu0, f, ha0, hu1⟩ := hen.2 i _ hm
        subst hu1
        obtain ⟨c', hf, hc⟩ := hrl.get m f _ ha0 hfn _ hD
        refine wpAny_Call_Name_kw (thn ((pe_var (pos := p1) (i := i) hNg zv hd hcd).run pinsZ sZ σZ HZ (fun v H1 => v = .ref f ∧ H1 = HZ) IZ ⟨.ref f, hu0, rfl, rfl⟩) fun w1 s2 ⟨v, H1, I1, rv, ev, eH⟩ => ?_)
        subst ev
        rw [eH] at I1
        obtain rfl : w1 = Value.ref f := rv
        obtain ⟨⟨pm, ctv, fAt⟩, _, _⟩ := I1.hok f _ hf
        obtain ⟨⟨oc, vs, t, hoc, hdc, hvc⟩, _, _⟩ := I1.hok c' _ hc
        refine PySem.W.callWith_F0 ⟨_, _, _, _, fAt⟩ ?_
        have e02 := I1.env0
        have e0' : Env0 X.prog X.w X.K X.mg X.base (X.A.deeper (envOfC qg sg s.heap.objs.size g cdg)) (envOfC qg sg s.heap.objs.size g cdg :: X.stack) s2 HZ := by
          have fb : ∀ L, base2.get? L = none → X.base.get? L = none := fun L z => by
            cases z1 : X.base.get? L with
            | none => rfl
            | some o =>
              rw [hb2 L o z1] at z
              cases z
          exact ⟨e02.frames, I.ok.mod, fun b o z => e02.bs b o (hb2 b o z), Nat.le_trans hz2 e02.bsz, funs_base e02.funs (fun L _ z => fb L z), e02.frf, e02.hok, e02.bare⟩
        have rc : codeAny (model X.prog X.w) (X.A.deeper (envOfC qg sg s.heap.objs.size g cdg)) (.call (.ref f) ⟨[], []⟩) (CR (L2.CX X.prog X.w) (envOfC qg sg s.heap.objs.size g cdg :: X.stack) X.prog X.w HZ s2 Q (fun cls d H' => W cls d σZ H')) s2 := by
          refine PySem.W.kla_callFunE hr.depth fAt rfl ok3.co ok3.gen rfl ⟨c', oc, vs, t, rfl, hoc, hdc, hvc⟩ ?_
          rw [ok4]
          refine wpAny_pure (wpAny_newFunctionEnv (fun y hy => (ok3.own y hy).2) (fun y hy => absurd hy (by simp)) (fun h₁ hns hsb => ⟨I1.nolimit.fresh _ hsb, ?_⟩) ok3.kind)
          have kp : ∀ d o, s2.heap.get? d = some o → h₁.get? d = some o := fun d o ed => hsb.extBut d o (Nat.ne_of_lt (Heap.lt_size ed)) (Heap.get?_push_of_some _ ed)
          have J := lam_enter0 (E := fun cls d H' => W cls d σZ H') (f := f) (c' := c') (tk := s2.toks + ([] : List (Str × Value)).length) I ok3 e0' hr.hd (fun z c v e1 ⟨o, e2, e3⟩ => ⟨⟨o, (I1.bs c o (hcl z c o e1 e2)).1, e3⟩, (I1.bs c o (hcl z c o e1 e2)).2⟩) hns kp
          have rd : tM X.K (fun cls d _ H' => W cls d σZ H') (ml j) σM HZ Q := ⟨r, ih, env0, hrl, he0.mono hrl.pre, by
            cases z : ml j env0 ih with
            | ok v ih2 => rw [z] at q; exact q
            | exc cc ih2 => rw [z] at q; exact q
            | stuck => rw [z] at q; exact q⟩
          refine PySem.W.kla_codeExpr (wpAny_mono ((ok5 _ _ s2 HZ f c' (fun cls d H' => W cls d σZ H') (hr.deeper _)).run [] _ _ HZ Q J rd) (fun v s' hq => ?_) fun e' s' hq => hq)
          obtain ⟨w', H', J', rv', q'⟩ := hq
          exact ⟨w', H', J'.os, J'.bare, J'.base, J'.hok, rv', q'⟩
        refine wpAny_call (codeAny_mono rc fun res s' hq => ?_)
        cases res with
        | error e' => exact passAt tkz σZ pinsZ HZ s2 e' s' I1 hq
        | ok fl =>
          cases fl with
          | ret u => exact I1.after hq
          | next => exact False.elim hq
          | brk => exact False.elim hq
          | cont => exact False.elim hq
      · rw [if_neg he] at q
        exact q.elim
    · exact q.elim
  · exact q.elim
end
end L3
/-! L3C: defs that call a lambda they are handed, and their calls. -/
namespace L3
variable [TabT]
open PySem PySem.Spec PyProof.Rows L2
/-- a def that calls what stands in its slot i, with no arguments -/
structure DfW (P : Program) (w : World) (K : PySem.W.Frag) (mg : Str → Option Value) (base : Heap) (k : Nat) (x : Str) (n N i : Nat) (mb : (Nat → Nat → IH → Res IV) → Env → IH → RS) : Prop where
  ex : ∃ (g : Addr) (qual : Str) (pg : Arguments) (bg : List Stmt) (sg : Scope) (dV kV doc pm cdv ct oc : Value) (an od : Option Addr) (osl : Array (Option Value)) (Ng ps : List Str) (a : Str),
    (ps.length = n ∧ Ng.length = N ∧ mg x = some (.ref g) ∧ PySem.W.keepIn K (.ref g) = true) ∧
    (K.lookup g = some ⟨oc, od, .func (PySem.W.fnOf x qual pg bg sg dV kV doc pm an cdv ct), osl⟩ ∧ PySem.W.codeIn K cdv qual = true ∧ Binds K (PySem.W.fnOf x qual pg bg sg dV kV doc pm an cdv ct) ps []) ∧
    (FnScope Ng ps sg ∧ Ng[i]? = some a ∧ Vis sg a ∧ (a == ("__debug__" : Str)) = false ∧ (a == ("__classdict__" : Str)) = false) ∧
    ∀ (I : LamT) (base2 : Heap) (A : Around) (outer : List PySem.Env) (s : Shared) (H : Hp) (E : XK) (lams : Nat → Nat → IH → Res IV), Room k (A.deeper (envOfC qual sg s.heap.objs.size g cdv)) →
      @ActOk0 _ I (cxOf (L2.CX P w) P w K mg base2 Ng qual sg g cdv A outer s H E) i a lams → PSs (cxOf (L2.CX P w) P w K mg base2 Ng qual sg g cdv A outer s H E) bg (@tMS _ I K (fun cls d _ H => E cls d H) (mb lams))
section
variable {P : Program} {w : World} {K : PySem.W.Frag} {mg : Str → Option Value} {base : Heap} {k i : Nat} {x qual a : Str} {st : Stmt} {f : Addr} {fd : FuncData} {N ps : List Str}
theorem dfW {mb : (Nat → Nat → IH → Res IV) → Env → IH → RS} (F : FunD K x qual (defArgs st) (defBody st) (defScope st) [] [] f fd) (S : FnScope N ps (defScope st)) (hm : mg x = some (.ref f)) (ha : N[i]? = some a) (hv : Vis (defScope st) a)
    (h : ∀ (kV doc pm : Value) (an : Option Addr) (cdv ct : Value) (us : List Value), us.length = ps.length → bindArgs (PySem.W.fnOf x qual (defArgs st) (defBody st) (defScope st) .none kV doc pm an cdv ct) ⟨us, []⟩ = pure (ps.zip us))
    (hbody : ∀ (I : LamT) (base2 : Heap) (cdv : Value) (A : Around) (outer : List PySem.Env) (s : Shared) (H : Hp) (E : XK) (lams : Nat → Nat → IH → Res IV), Room k (cxOf (L2.CX P w) P w K mg base2 N qual (defScope st) f cdv A outer s H E).A →
      Takes (cxOf (L2.CX P w) P w K mg base2 N qual (defScope st) f cdv A outer s H E) (fun cls d _ H => E cls d H) →
      PassesOwn (model P w) (cxOf (L2.CX P w) P w K mg base2 N qual (defScope st) f cdv A outer s H E).A (cxOf (L2.CX P w) P w K mg base2 N qual (defScope st) f cdv A outer s H E).env (cxOf (L2.CX P w) P w K mg base2 N qual (defScope st) f cdv A outer s H E).xe →
      (cxOf (L2.CX P w) P w K mg base2 N qual (defScope st) f cdv A outer s H E).A.units + 64 < cLine →
      @ActOk0 _ I (cxOf (L2.CX P w) P w K mg base2 N qual (defScope st) f cdv A outer s H E) i a lams → PSs (cxOf (L2.CX P w) P w K mg base2 N qual (defScope st) f cdv A outer s H E) (defBody st) (@tMS _ I K (fun cls d _ H => E cls d H) (mb lams)))
    (hd : (a == ("__debug__" : Str)) = false := by decide) (hcd : (a == ("__classdict__" : Str)) = false := by decide) : DfW P w K mg base k x ps.length N.length i mb := by
  have hB := F.bindsN h
  obtain ⟨oc, od, dV, kV, doc, pm, an, cdv, ct, osl, rfl, lk, hc, hD, hK⟩ := F.ex
  exact ⟨f, qual, defArgs st, defBody st, defScope st, dV, kV, doc, pm, cdv, ct, oc, an, od, osl, N, ps, a, ⟨rfl, rfl, hm, F.kp⟩, ⟨lk, hc, hB⟩, ⟨S, ha, hv, hd, hcd⟩, fun I base2 A outer s H E lams hr act => hbody I base2 cdv A outer s H E lams hr (takes_of rfl rfl rfl rfl) (passes_of rfl) (by
    have hu := hr.un
    show (A.deeper (envOfC qual (defScope st) s.heap.objs.size f cdv)).units + 64 < cLine
    omega) act⟩
end
/-! ### its call -/
/-- what the lambdas of the maker entered at e0 do, the maker's slots being env -/
abbrev lamsAt (e0 : Nat) (ml : Nat → Env → IH → Res IV) (env : Env) : Nat → Nat → IH → Res IV := fun e j ih => if e = e0 then ml j env ih else .stuck
def m_callW (n N e0 : Nat) (mb : (Nat → Nat → IH → Res IV) → Env → IH → RS) (ml : Nat → Env → IH → Res IV) (ma : Env → IH → Res (List IV)) (env : Env) (ih : IH) : Res IV :=
  (ma env ih).bind fun xs ih1 => if xs.length = n then defRun N (mb (lamsAt e0 ml env)) xs ih1 else .stuck
theorem Rel.pin {I0 : LamT} {K : PySem.W.Frag} {r : List Addr} {ih : IH} {H : Hp} (h : @Rel _ I0 K r ih H) : @Rel _ ⟨r, I0.cs, I0.fn⟩ K r ih H := by
  obtain ⟨h1, h2, h3, h4, h5, h6, h7, h8⟩ := h
  exact @Rel.mk _ ⟨r, I0.cs, I0.fn⟩ _ _ _ _ h1 (fun n a o e1 e2 => RO.inst (h2 n a o e1 e2) fun e j D _ hD => hD) h3 h4 (pre_refl r) (fun p hp => h6 p hp) h7 h8
theorem Rel.unpin {I0 : LamT} {K : PySem.W.Frag} {r0 r : List Addr} {ih : IH} {H : Hp} (h : @Rel _ ⟨r0, I0.cs, I0.fn⟩ K r ih H) (p : I0.r0 <+: r0) : @Rel _ I0 K r ih H := by
  obtain ⟨h1, h2, h3, h4, h5, h6, h7, h8⟩ := h
  exact @Rel.mk _ I0 _ _ _ _ h1 (fun n a o e1 e2 => RO.inst (h2 n a o e1 e2) fun e j D _ hD => hD) h3 h4 (p.trans h5) (fun p hp => h6 p hp) h7 h8
/-- what stands in the maker's cells is what stood there when XM's state was told -/
def Link [LamT] (XM X : Cx) (vs : List Nat) (P : L2.St → Prop) : Prop := ∀ (pins : List (Addr × Obj)) (s : Shared) (σ : L2.St) (H : Hp) (r : List Addr) (env : Env), L2.Inv X pins σ H s → P σ → REnv r env σ →
  ∃ (pinsM : List (Addr × Obj)) (σM : L2.St) (HM : Hp) (sM : Shared), L2.Inv XM pinsM σM HM sM ∧ REnv r (wipeI env vs) σM ∧ ∀ z c o, XM.env.cells.lookup z = some c → sM.heap.get? c = some o → s.heap.get? c = some o ∧ H c = none ∧ c ∉ frs X.stack
section
variable [LamT] {XM X : Cx} {W : WX} {k n N i e0 : Nat} {x : Str} {mb : (Nat → Nat → IH → Res IV) → Env → IH → RS} {ml : Nat → Env → IH → Res IV} {es : List Expr} {la : Expr} {ma : Env → IH → Res (List IV)} {mla : Env → IH → Res IV} {np pos : Pos} {vs : List Nat}
/-- x(es, la): la is evaluated last -/
def m_callV (vs : List Nat) (n N e0 : Nat) (mb : (Nat → Nat → IH → Res IV) → Env → IH → RS) (ml : Nat → Env → IH → Res IV) (ma : Env → IH → Res (List IV)) (mla : Env → IH → Res IV) (env : Env) (ih : IH) : Res IV :=
  (ma env ih).bind fun xs ih1 => (mla env ih1).bind fun y ih2 => if (xs ++ [y]).length = n then defRun N (mb (lamsAt e0 ml (wipeI env vs))) (xs ++ [y]) ih2 else .stuck
theorem lm_callV {s0 : Shared} {H0 : Hp} {benv : PySem.Env} {bouter : List PySem.Env} {bex : List Addr} {bfn : Str → Bool} {bcalm : Bool} {bpn : List (Addr × Obj)} {bxe : Value → Shared → Prop} (hX : X = Zin XM s0 H0 benv bouter bex bfn bcalm bpn bxe)
    {P : L2.St → Prop} (LK : Link XM X vs P) (D : DfW XM.prog XM.w XM.K XM.mg XM.base (k + 1) x n N i mb) (hr : Room (k + 2) XM.A) (hg : Gl X x) (ha : AL X W es ma) (hla : PE X la (tM X.K W mla)) (tk : Takes X W)
    (hL : ∀ (r0 : List Addr) (j : Nat), (∃ D, LamT.fn e0 j = some D ∧ @LamOk _ ⟨r0, LamT.cs, LamT.fn⟩ XM k D (ml j)) ∨ ∀ env ih, ml j env ih = .stuck)
    (hle : starEach [la] X.env = [(false, eval la X.env)]) (hdb : (x == ("__debug__" : Str)) = false := by decide)
    (hpl : ∀ {first : Expr} {rest : List Expr}, es ++ [la] = first :: rest → starEach (first :: rest) X.env = (false, eval first X.env) :: starEach rest X.env ∧ (backTo pos (starEach rest X.env)).any (·.1) = false) :
    PE X (.Call (.Name x np) (es ++ [la]) [] pos) (fun σ H Q => P σ ∧ tM X.K W (m_callV vs n N e0 mb ml ma mla) σ H Q) := by
  subst hX
  obtain ⟨g, qual, pg, bg, sg, dV, kV, doc, pm, cdv, ct, oc, an, od, osl, Ng, ps, a, ⟨hps, hNg, hm, hk⟩, ⟨lk, hcd, hB⟩, ⟨Sg, hNa, hva, hda, hca⟩, hbody⟩ := D.ex
  refine ⟨fun pins s σ H Q I ⟨hP, r, ih, env, hrl, he, q⟩ => ?_⟩
  refine wpAny_Call_Name_kw (ld_glob I hg hm ?_ hdb)
  obtain ⟨first, rest, hfr⟩ : ∃ first rest, es ++ [la] = first :: rest := by
    cases es with
    | nil => exact ⟨_, _, rfl⟩
    | cons e es => exact ⟨_, _, rfl⟩
  obtain ⟨hs1, hs2⟩ := hpl hfr
  have run := ha.run hle (pos := pos) (Q := fun us s1 => XM.K.In s1.heap ∧ wpAny (model XM.prog XM.w) XM.A (call (.ref g) us) (EP (Zin XM s0 H0 benv bouter bex bfn bcalm bpn bxe) pins σ Q) bxe s1) I hrl he ?_
  · rw [hfr] at run ⊢
    exact PySem.W.callWith_K (h₀ := XM.base) I.ok.mod.kin hk run hs1 hs2
  unfold m_callV at q
  cases em : ma env ih with
  | stuck => rw [em] at q; exact q.elim
  | exc cc ih1 => rw [em] at q; exact fun r1 H1 p1 q1 => q r1 H1 p1 q1
  | ok vs1 ih1 =>
    rw [em] at q
    simp only [Res.bind_ok] at q
    intro r1 H1 zs us s1 p1 hr1 hvs rvs I1
    have q' : PGen R XM.K W σ r1 ((mla env ih1).bind fun y ih2 => if (vs1 ++ [y]).length = n then defRun N (mb (lamsAt e0 ml (wipeI env vs))) (vs1 ++ [y]) ih2 else .stuck) Q := by
      cases z : ((mla env ih1).bind fun y ih2 => if (vs1 ++ [y]).length = n then defRun N (mb (lamsAt e0 ml (wipeI env vs))) (vs1 ++ [y]) ih2 else .stuck) with
      | ok v ih2 => rw [z] at q; exact fun r' H' u p hr' hv => q r' H' u (pre_trans p1 p) hr' hv
      | exc cc ih2 => rw [z] at q; exact fun r' H' p hr' => q r' H' (pre_trans p1 p) hr'
      | stuck => rw [z] at q; exact q
    refine thn (hla.run pins s1 σ H1 _ I1 (tG_bind hr1 (he.mono p1) q')) fun w s2 ⟨x2, H2, I2, rx, r2, ih2, v2, p2, hr2, hv2, q2⟩ => ⟨I2.kIn, ?_⟩
    dsimp only at q2
    by_cases hlen : (vs1 ++ [v2]).length = n
    · rw [if_pos hlen] at q2
      obtain ⟨pinsM, σM, HM, sM, IM, heM, hcM⟩ := LK pins s2 σ H2 r2 env I2 hP (he.mono (pre_trans p1 p2))
      have lus : (us ++ [w]).length = ps.length := by
        have e1 := rvs.length
        have e2 := hvs.length
        rw [List.length_append] at hlen ⊢
        simp only [List.length_cons, List.length_nil] at hlen ⊢
        omega
      obtain ⟨PK, hPK⟩ : ∃ P : Addr → Prop, P = fun b => (∃ o, XM.base.get? b = some o) ∨ ∃ z, XM.env.cells.lookup z = some b := ⟨_, rfl⟩
      have pk1 : ∀ b o, XM.base.get? b = some o → PK b := fun b o z => by rw [hPK]; exact .inl ⟨o, z⟩
      have pk3 : ∀ z c, XM.env.cells.lookup z = some c → PK c := fun z c e => by rw [hPK]; exact .inr ⟨z, e⟩
      have hb2 : ∀ b o, XM.base.get? b = some o → (keepH s2.heap PK).get? b = some o := fun b o z => by rw [keepH_in (pk1 b o z)]; exact I2.bk b o z
      have cell : ∀ {y b}, XM.env.cells.lookup y = some b → H2 b = none ∧ b ∉ frs (Zin XM s0 H0 benv bouter bex bfn bcalm bpn bxe).stack := fun {y b} z1 => by
        obtain ⟨v, o, ho, _⟩ := IM.cell y b z1
        obtain ⟨_, h1, h2⟩ := hcM y b o z1 ho
        exact ⟨h1, h2⟩
      have e02 : Env0 XM.prog XM.w XM.K XM.mg (keepH s2.heap PK) XM.A XM.stack s2 H2 := by
        have e0 := I2.env0
        refine ⟨e0.frames, mod_keeps e0.mod hb2, fun b o z => ?_, Nat.le_of_eq keepH_size, funs_base e0.funs fun L hL hn => ?_, e0.frf, e0.hok, e0.bare⟩
        · obtain ⟨z1, z2⟩ := keepH_sub z
          refine ⟨z2, ?_⟩
          rw [hPK] at z1
          rcases z1 with ⟨o', z1⟩ | ⟨y, z1⟩
          · exact (e0.bs b o' z1).2
          · exact (cell z1).1
        · refine keepH_out fun z1 => ?_
          rw [hPK] at z1
          rcases z1 with ⟨o', z1⟩ | ⟨y, z1⟩
          · rw [hn] at z1; cases z1
          · exact (cell z1).2 hL
      have rc : codeAny (model XM.prog XM.w) XM.A (.call (.ref g) ⟨us ++ [w], []⟩) (CR (L2.CX XM.prog XM.w) XM.stack XM.prog XM.w H2 s2 Q (fun cls d H' => W cls d σ H')) s2 := by
        refine LamX.run_ofS (N := Ng) (ps := ps) (us := us ++ [w]) (vs := zs ++ [x2]) lk hcd Sg hr e02 (by have hb := hB s2 (us ++ [w]) I2.kIn (by rw [List.append_nil]; exact lus); rw [List.append_nil] at hb; exact hb) (rvs.append (.cons rx .nil)) (by rw [List.length_append, rvs.length]; rw [List.length_append] at lus; exact lus) fun hr' => ?_
        have act := @act_ok0 _ ⟨r2, LamT.cs, LamT.fn⟩ XM H2 s2 pinsM σM HM sM (keepH s2.heap PK) Ng qual sg g cdv (fun cls d H' => W cls d σ H') k i e0 a ml (wipeI env vs) IM (hL r2) heM (fun z c o e1 e2 => by rw [keepH_in (pk3 z c e1)]; exact (hcM z c o e1 e2).1) hb2 (by rw [keepH_size]; exact Nat.le_trans I2.ok.bsz I2.sz) hr' hNa hda hca
        refine ⟨_, hbody ⟨r2, LamT.cs, LamT.fn⟩ (keepH s2.heap PK) XM.A XM.stack s2 H2 (fun cls d H' => W cls d σ H') (lamsAt e0 ml (wipeI env vs)) (hr'.mono (by omega)) act, r2, ih2, startI N (vs1 ++ [v2]), hr2.pin, ?_, ?_⟩
        · rw [← hNg]
          exact start_rel ((hvs.mono p2).append (.cons hv2 .nil))
        · unfold defRun at q2
          cases z : mb (lamsAt e0 ml (wipeI env vs)) (startI N (vs1 ++ [v2])) ih2 with
          | stuck => rw [z] at q2; exact q2
          | exc cc env2 ih3 => rw [z] at q2; exact fun r' H' σ' p' hr' he' => q2 r' H' p' (hr'.unpin hr2.pre)
          | ok fl ih3 =>
            rw [z] at q2
            cases fl with
            | ret v => exact fun r' H' u p' hr' hv' => q2 r' H' u p' (hr'.unpin hr2.pre) hv'
            | next env2 => exact fun r' H' σ' p' hr' he' => q2 r' H' .non p' (hr'.unpin hr2.pre) rfl
            | brk env2 => exact q2.elim
            | cont env2 => exact q2.elim
      refine wpAny_call (codeAny_mono rc fun res s' hq => ?_)
      cases res with
      | error e' => exact passAt tk σ pins H2 s2 e' s' I2 hq
      | ok fl =>
        cases fl with
        | ret u => exact I2.after hq
        | next => exact False.elim hq
        | brk => exact False.elim hq
        | cont => exact False.elim hq
    · rw [if_neg hlen] at q2
      exact q2.elim
end
end L3
/-! L3D: what a caller's context knows of the maker's cells: the maker itself, a block of it. -/
namespace L3
variable [TabT] [LamT]
open PySem PySem.Spec PyProof.Rows L2
section
variable {XM : Cx} {pins : List (Addr × Obj)} {σ : L2.St} {H : Hp} {s : Shared}
theorem cell_out {z : Str} {c : Addr} (I : L2.Inv XM pins σ H s) (hfn : ∀ y, XM.fn y = true) (e : XM.env.cells.lookup z = some c) : c ∉ frs XM.stack := fun hb => by
  rcases List.mem_cons.mp (I.stkSub c hb) with z2 | z2
  · exact I.cne z c e z2
  · obtain ⟨_, o, ho, _⟩ := I.ok.funs.mem z2
    exact absurd (Nat.lt_of_lt_of_le (Heap.lt_size ho) (I.ok.cab z c (hfn z) e)) (Nat.lt_irrefl _)
/-- the maker's own statement -/
theorem link_self (hfn : ∀ y, XM.fn y = true) : Link XM XM [] (fun _ => True) := fun pins s σ H r env I _ he =>
  ⟨pins, σ, H, s, I, he, fun z c o e1 e2 => ⟨e2, I.freeC z c e1, cell_out I hfn e1⟩⟩
/-- a block of the maker's, entered at s -/
theorem link_blk {scope : Scope} {ce : PySem.Env} {fp : List Addr} {vs : List Nat} (I : L2.Inv XM pins σ H s) (hfn : ∀ y, XM.fn y = true) (hfp : ∀ b ∈ fp, ∀ y c, XM.env.cells.lookup y = some c → b ≠ c) :
    Link XM (XM.blk s H scope ce fp) vs (fun σ' => wipe σ' vs = wipe σ vs) := fun pins' s' σ' H' r env I' hP he => by
  refine ⟨pins, σ, H, s, I, ⟨?_, fun i v e => ?_⟩, fun z c o e1 e2 => ?_⟩
  · have h1 := (he.wipe vs).1
    rw [hP, wipe_length] at h1
    exact h1
  · obtain ⟨u, h1, h2⟩ := (he.wipe vs).2 i v e
    rw [hP] at h1
    exact ⟨u, (wipe_some h1).1, h2⟩
  · have nx : c ∉ fp := fun hb => hfp c hb z c e1 rfl
    have nf := cell_out I hfn e1
    exact ⟨I'.base.keep c o e2 (I.freeC z c e1) nf nx, I'.base.free c o e2 (I.freeC z c e1) nx, nf⟩
end
end L3
/-! L3E: a list comprehension whose element's walk may use what the def's context knew when the block was entered (the library's lc_core has no such premise). -/
namespace L3
variable [TabT] [LamT]
open PySem PySem.Spec PyProof.Rows L2
section
variable {X : Cx} {elt tg iter : Expr} {scope : Scope} {own : List (Str × Nat)} {pos : Pos} {wi : TI} {g : TG} {tt : TT} {te : TE}
/-- the block's walks, entered at s -/
structure InBlk (X : Cx) (tg elt : Expr) (scope : Scope) (vs : List Nat) (g : TG) (tt : TT) (te : TE) (σ : L2.St) (s : Shared) (H : Hp) (ce : PySem.Env) (fp : List Addr) : Prop where
  g : PG (X.blk s H scope ce fp) tg g
  t : PTs (X.blk s H scope ce fp) [] tt
  e : PE (X.blk s H scope ce fp) elt (fun σ' H' Q => wipe σ' vs = wipe σ vs ∧ te σ' H' Q)
theorem blk_fp {σ : L2.St} {H : Hp} {s s3 : Shared} {H3 : Hp} {ce : PySem.Env} {fp : List Addr} (I : L2.Inv (X.blk s3 H3 scope ce fp) [] σ H s) (hn : ∀ b ∈ fp, H b = none) : ∀ b ∈ fp, FpOk (X.blk s3 H3 scope ce fp) [] H b := fun b hb =>
  ⟨hn b hb, (I.ok.exf b hb).1, I.ok.exfs b hb, .inl hb, fun x c e => (I.ok.exf b hb).2 x c e, fun p hp => absurd (show p ∈ ([] : List (Addr × Obj)) ++ [] from hp) (by simp)⟩
theorem pe_lcI (hc : X.calm = true) (hN : X.N.Nodup) (hi : PI X tg iter wi) (ok : BlkOk X.N X.env.scope scope own)
    (hb : ∀ (pins : List (Addr × Obj)) (σ : L2.St) (s : Shared) (H : Hp) (C : Addr) (cl : List (Str × Addr)) (fp : List Addr), L2.Inv X pins σ H s → (∀ b ∈ fp, ∀ y c, X.env.cells.lookup y = some c → b ≠ c) →
      InBlk X tg elt scope (own.map (·.2)) g tt te σ s H (compEnvC scope cl C X.env) fp)
    (hs : ∀ x, foldedSetIterable iter X.env x = pure x := by intro _; rfl) :
    PE X (.ListComp elt [⟨tg, iter, [], 0⟩] scope pos) (tLc wi g tt te (own.map (·.2))) := by
  refine ⟨fun pins s σ H Q I h => ?_⟩
  rw [eval_ListComp]
  have hfree : ∀ y ∈ scope.names, y.2 = .free → ∃ c, X.env.cells.lookup y.1 = some c := fun y hy e => (ok.free y hy e).elim (fun k => I.ok.has _ (.inl k)) (fun k => I.ok.has _ (.inr k))
  refine wpAny_comprehension_free (use := none) rfl hs (closure_ok hfree) ok.kind (fun y hy e => by rw [ok.uniq y hy, e]) (thn (hi.run pins s σ H _ I h) fun xv s1 hx => thn hx fun itv s2 h2 => ?_)
  obtain ⟨it, fp, tn, J, H2, e, I2, T, st2, f2, q⟩ := h2
  subst e
  refine wpAny_newObj_type (newEnv_comp ?_) (by show 0 ≤ sizeLine; decide)
  generalize hD : s2.heap.objs.size = D
  obtain ⟨W, ⟨m0, w0⟩, turn⟩ := q D (I2.hok.fresh (Nat.le_of_eq hD))
  generalize hs3 : ({ s2 with heap := s2.heap.push { cls := .type "list", data := .seq ([] : List Value).toArray } } : Shared) = s3
  have h3 : s3.heap = s2.heap.push { cls := .type "list", data := .seq ([] : List Value).toArray } := by rw [← hs3]
  have I3 : L2.Inv X pins σ (upd H2 D (.lst [])) s3 := by
    rw [← hs3]
    refine I2.laid (t' := s2.toks) (fun b o e => Heap.get?_push_of_some _ e) (Nat.le_of_eq hD) ⟨Nat.zero_le _, [], 0, .nil, ?_⟩
    rw [← hD]
    exact Heap.get?_push_size _ rfl
  have f3 : ∀ b ∈ fp, FpOk X pins (upd H2 D (.lst [])) b ∧ b < s3.heap.objs.size := fun b hb => by
    obtain ⟨o, e, _⟩ := T.obj _ _ st2 b hb
    have hlt := Heap.lt_size e
    exact ⟨⟨by rw [upd_ne (by rw [← hD]; exact Nat.ne_of_lt hlt)]; exact (f2 b hb).1, (f2 b hb).2⟩, by rw [h3, Heap.size_push]; exact Nat.lt_succ_of_lt hlt⟩
  have st3 : tn 0 s3.heap := T.keep _ _ _ st2 fun b _ o e => by rw [h3]; exact Heap.get?_push_of_some _ e
  have I4 := block_start I3 ok hN f3
  have B := hb pins σ s3 (upd H2 D (.lst [])) s3.heap.objs.size (cellsFrom (s3.heap.objs.size + 1) scope.names (cloFrom X.env.cells scope.names [])) fp I3 fun b hb y c e => Ne.symm ((f3 b hb).1.2.2.2.2.1 y c e)
  show codeAny _ _ (.compStart (.ListComp elt [⟨tg, iter, [], 0⟩] scope pos) 0 (.ref it) (.ref D) (compEnvC scope (cellsFrom (s3.heap.objs.size + 1) scope.names (cloFrom X.env.cells scope.names [])) s3.heap.objs.size X.env)) (compPost (model X.prog X.w) X.A X.xe none _ (.ref D) s3.heap.objs.size) { s3 with heap := pushCells (s3.heap.push { cls := .type "dict", data := .dict #[] }) scope.names }
  generalize hce : compEnvC scope (cellsFrom (s3.heap.objs.size + 1) scope.names (cloFrom X.env.cells scope.names [])) s3.heap.objs.size X.env = ce at I4 B ⊢
  have cL : ce.locals = s3.heap.objs.size := by subst hce; rfl
  have nfp : ∀ b ∈ fp, (upd H2 D (.lst [])) b = none := fun b hb => (f3 b hb).1.1
  generalize hH3 : upd H2 D (.lst []) = H3 at I3 I4 B w0 nfp f3
  generalize hs4 : ({ s3 with heap := pushCells (s3.heap.push { cls := .type "dict", data := .dict #[] }) scope.names } : Shared) = s4 at I4 ⊢
  have st4 : tn 0 s4.heap := T.keep _ _ _ st3 fun b _ o e => by rw [← hs4]; exact pushCells_keeps _ _ _ _ (Heap.get?_push_of_some _ e)
  have loop : codeAny (model X.prog X.w) X.A (.compLoop (.ListComp elt [⟨tg, iter, [], 0⟩] scope pos) 0 (.ref it) (.ref D) ce) (compPost (model X.prog X.w) X.A X.xe none (EP X pins σ Q) (.ref D) s3.heap.objs.size) s4 := by
    refine compLoop_any (fun n s' => ∃ i H', L2.Inv (X.blk s3 H3 scope ce fp) [] (wipe σ (own.map (·.2))) H' s' ∧ tn i s'.heap ∧ (∀ b ∈ fp, H' b = none) ∧ W i n H') ?_ m0 ⟨0, H3, I4, st4, nfp, w0⟩
    rintro n s5 ⟨i, H5, I5, st5, n5, w5⟩
    rcases turn i n H5 w5 with ⟨stop, qq⟩ | ⟨go, Nx, hNx, step⟩
    · refine thnF (T.done (X.blk s3 H3 scope ce fp) rfl rfl rfl hc i [] s5 _ H5 (fun _ _ => False) I5 (blk_fp I5 n5) st5 stop) fun r s6 ⟨hr, I6⟩ => ?_
      subst hr
      have I7 : L2.Inv X pins σ H5 s6 := I3.call' (ch := fp) I6.os I6.base I6.hok I6.bare fun b hb => ⟨(f3 b hb).1.2.2.2.1, (f3 b hb).1.2.1, (f3 b hb).1.2.2.2.2.1, (f3 b hb).1.2.2.2.2.2⟩
      have nC : H5 s3.heap.objs.size = none := by
        rw [← cL]; exact I6.free
      obtain ⟨m, hn, _⟩ := I6.loc
      have hn : s6.heap.Ns ce.locals m := hn
      rw [cL] at hn
      obtain ⟨c0, c1, c2, c3, c4, c5⟩ := I3.fpOk (Nat.le_refl _) nC
      exact ⟨m, hn, fun h'' sb => ⟨.ref D, H5, I7.turned (t' := s6.toks) (fun b o hb e => (sb.2 b hb).trans e) c0 c1 c3 c4 c5, rfl, qq⟩⟩
    · refine thnF (T.item (X.blk s3 H3 scope ce fp) rfl rfl rfl hc i [] s5 _ H5 (fun _ _ => False) I5 (blk_fp I5 n5) st5 go) fun r s6 ⟨u, hr, h6⟩ => ?_
      subst hr
      refine thnF h6 fun _ s7 ⟨x, H7, I7, r7, y7, st7, n7⟩ => ?_
      refine thnF (B.g.run _ s7 _ H7 x u _ (I7.pinned (blk_fp I7 n7) (T.obj _ _ st7)) r7 (step x H7 y7)) fun _ s8 ⟨σ8, H8, I8, hw8, q8⟩ => ?_
      refine thnF (B.t.run _ s8 σ8 H8 _ I8 q8) fun b s9 ⟨H9, I9, q9⟩ => ?_
      have fin : ∀ {s' : Shared} {H' : Hp}, L2.Inv (X.blk s3 H3 scope ce fp) ([] ++ pinsAt fp s7.heap) σ8 H' s' → Nx H' → ∃ m, m < n ∧ ∃ i H', L2.Inv (X.blk s3 H3 scope ce fp) [] (wipe σ (own.map (·.2))) H' s' ∧ tn i s'.heap ∧ (∀ b ∈ fp, H' b = none) ∧ W i m H' := fun {s' H'} I' nx => by
        obtain ⟨m', hm, w'⟩ := hNx H' nx
        have pin' : ∀ b ∈ fp, ∀ o, s7.heap.get? b = some o → s'.heap.get? b = some o ∧ H' b = none := fun b hb o e =>
          have z := I'.pin (b, o) (List.mem_append_right _ (List.mem_append_right _ (mem_pinsAt hb e)))
          ⟨z.1, z.2.1⟩
        refine ⟨m', hm, i + 1, H', (I'.unpinned (pins := [])).weak (by rw [← hw8, wipe_length]) (fun j v e => ?_), T.keep _ _ _ st7 fun b hb o e => (pin' b hb o e).1, fun b hb => ?_, w'⟩
        · rw [← hw8] at e
          exact (wipe_some e).1
        · obtain ⟨o, e, _⟩ := T.obj _ _ st7 b hb
          exact (pin' b hb o e).2
      cases b with
      | false => exact fin I9 (by simpa using q9)
      | true =>
        simp only [if_true] at q9 ⊢
        refine thnF (B.e.run _ s9 σ8 H9 _ I9 ⟨hw8, q9⟩) fun z s10 ⟨yv, H10, I10, r10, acc, hD10, hz10, nx⟩ => ?_
        exact app_ok (X := X.blk s3 H3 scope ce fp) I10 hD10 hz10 r10 fun s11 I11 => fin I11 nx
  exact codeAny_compStart_list loop (T.self X.A 0 _ _ _ st4 loop)
/-- its mirror -/
theorem lm_lcI {W : WX} {ks : List Nat} {f : IV → Env → IH → Option Env} {mi : Env → IH → Res Src} {me : Env → IH → Res IV} (hc : X.calm = true) (hN : X.N.Nodup) (hi : PI X tg iter (tMI X.K W mi)) (ok : BlkOk X.N X.env.scope scope own)
    (sg : SndG X.K ks g f) (hk : ∀ k ∈ ks, k ∈ own.map (·.2))
    (hb : ∀ (pins : List (Addr × Obj)) (σ : L2.St) (s : Shared) (H : Hp) (C : Addr) (cl : List (Str × Addr)) (fp : List Addr), L2.Inv X pins σ H s → (∀ b ∈ fp, ∀ y c, X.env.cells.lookup y = some c → b ≠ c) →
      InBlk X tg elt scope (own.map (·.2)) g (tMT X.K W0 n_yes) (tM X.K W0 me) σ s H (compEnvC scope cl C X.env) fp)
    (hs : ∀ x, foldedSetIterable iter X.env x = pure x := by intro _; rfl) :
    PE X (.ListComp elt [⟨tg, iter, [], 0⟩] scope pos) (tM X.K W (m_lc (own.map (·.2)) mi f n_yes me)) := PE.of (pe_lcI hc hN hi ok hb hs) fun σ H Q h => lc_weak sg hk h
/-- a call of a def that calls what it is handed, from a block of the maker's -/
theorem callV_blk {XM : Cx} {W : WX} {k n N i e0 : Nat} {x : Str} {mb : (Nat → Nat → IH → Res IV) → Env → IH → RS} {ml : Nat → Env → IH → Res IV} {es : List Expr} {la : Expr} {ma : Env → IH → Res (List IV)} {mla : Env → IH → Res IV} {np pos : Pos} {vs : List Nat}
    {pins : List (Addr × Obj)} {σ : L2.St} {s : Shared} {H : Hp} {scope : Scope} {ce : PySem.Env} {fp : List Addr} (I : L2.Inv XM pins σ H s) (hfn : ∀ y, XM.fn y = true) (hfp : ∀ b ∈ fp, ∀ y c, XM.env.cells.lookup y = some c → b ≠ c)
    (D : DfW XM.prog XM.w XM.K XM.mg XM.base (k + 1) x n N i mb) (hr : Room (k + 2) XM.A) (hg : Gl (XM.blk s H scope ce fp) x) (ha : AL (XM.blk s H scope ce fp) W es ma) (hla : PE (XM.blk s H scope ce fp) la (tM XM.K W mla)) (tk : Takes (XM.blk s H scope ce fp) W)
    (hL : ∀ (r0 : List Addr) (j : Nat), (∃ D, LamT.fn e0 j = some D ∧ @LamOk _ ⟨r0, LamT.cs, LamT.fn⟩ XM k D (ml j)) ∨ ∀ env ih, ml j env ih = .stuck)
    (hle : starEach [la] ce = [(false, eval la ce)]) (hdb : (x == ("__debug__" : Str)) = false)
    (hpl : ∀ {first : Expr} {rest : List Expr}, es ++ [la] = first :: rest → starEach (first :: rest) ce = (false, eval first ce) :: starEach rest ce ∧ (backTo pos (starEach rest ce)).any (·.1) = false) :
    PE (XM.blk s H scope ce fp) (.Call (.Name x np) (es ++ [la]) [] pos) (fun σ' H' Q => wipe σ' vs = wipe σ vs ∧ tM XM.K W (m_callV vs n N e0 mb ml ma mla) σ' H' Q) :=
  lm_callV (X := XM.blk s H scope ce fp) (XM := XM) rfl (link_blk I hfn hfp) D hr hg ha hla tk hL hle hdb hpl
end
end L3
/-! L3F: the words of lambdas, by a path into the text; keyword calls in any order. -/
namespace L3
variable [TabT]
open PySem PySem.Spec PyProof.Rows L2
def kidE : Expr → List Expr
  | .BoolOp _ vs _ => vs
  | .BinOp a _ b _ => [a, b]
  | .UnaryOp _ a _ => [a]
  | .IfExp a b c _ => [a, b, c]
  | .ListComp e _ _ _ => [e]
  | .Compare a _ bs _ => a :: bs
  | .Call f es _ _ => f :: es
  | .Attribute a _ _ => [a]
  | .Subscript a b _ => [a, b]
  | .List es _ => es
  | .Tuple es _ _ => es
  | .Lambda _ b _ _ => [b]
  | _ => []
def kidS : Stmt → List Stmt
  | .For _ _ b _ _ => b
  | .If _ a b _ => a ++ b
  | .While _ a _ _ => a
  | .Try b _ _ _ _ => b
  | _ => []
def expS : Stmt → List Expr
  | .Return (some e) _ => [e]
  | .Assign _ e _ => [e]
  | .AugAssign _ _ e _ => [e]
  | .Expr e _ => [e]
  | .For _ i _ _ _ => [i]
  | .If t _ _ _ => [t]
  | .While t _ _ _ => [t]
  | _ => []
def noE : Expr := .Name ⟨#[]⟩ ⟨0, 0, 0, 0⟩
def pathE : List Nat → Expr → Expr
  | [], e => e
  | i :: l, e => pathE l ((kidE e).getD i noE)
def pathS : List Nat → List Stmt → List Nat → Expr
  | [], _, _ => noE
  | [i], ss, l => match l with
    | [] => noE
    | j :: l => pathE l ((expS (ss.getD i (.Pass ⟨0, 0, 0, 0⟩))).getD j noE)
  | i :: p, ss, l => pathS p (kidS (ss.getD i (.Pass ⟨0, 0, 0, 0⟩))) l
def lamW : Expr → LamW
  | .Lambda p b s _ => (p, b, s)
  | _ => (⟨[], [], none, [], [], none, []⟩, noE, { kind := .function, names := [], isGenerator := false, isCoroutine := false })
theorem lamOk_of {I : LamT} {X : Cx} {k e0 j : Nat} {ml : Env → IH → Res IV} (p : LamW) (r0 : List Addr) (hD : I.fn e0 j = some ⟨X.env.qual ++ "<lambda>", p.1, p.2.1, p.2.2, cloFrom X.env.cells p.2.2.names []⟩) (sc : LamX.LamS X.env.scope p.2.2)
    (bind : ∀ (pm cv ctv : Value), bindArgs (PySem.W.kla_fn "<lambda>" (X.env.qual ++ "<lambda>") p.1 p.2.1 p.2.2 (cloFrom X.env.cells p.2.2.names []) pm cv ctv) ⟨[], []⟩ = pure [])
    (run : ∀ (J : LamT) (A : Around) (outer : List PySem.Env) (s' : Shared) (H' : Hp) (f c' : Addr) (E : XK), Room k (A.deeper (LamX.lamEnv X p.2.2 s'.heap.objs.size f c')) → PE (LamX.lamCx X A outer s' H' E p.2.2 f c') p.2.1 (@tM _ J X.K (fun cls d _ H => E cls d H) ml)) :
    (∃ D, I.fn e0 j = some D ∧ @LamOk _ ⟨r0, I.cs, I.fn⟩ X k D ml) ∨ ∀ env ih, ml env ih = .stuck :=
  .inl ⟨_, hD, @LamOk.mk _ ⟨r0, I.cs, I.fn⟩ X k _ ml rfl rfl sc bind fun A outer s' H' f c' E hr => run ⟨r0, I.cs, I.fn⟩ A outer s' H' f c' E hr⟩
/-! ### keywords in any order -/
/-- the k-th of the parameters is the (js k)-th keyword -/
def pick : List Nat → {α : Type} → List α → List α := fun js _ l => js.filterMap fun j => l[j]?
theorem pick_par {js : List Nat} {α β : Type} {T : α → β → Prop} {xs : List α} {ys : List β} (h : Paired T xs ys) : Paired T (pick js xs) (pick js ys) := by
  have g : ∀ {xs : List α} {ys : List β}, Paired T xs ys → ∀ j : Nat, (xs[j]? = none ∧ ys[j]? = none) ∨ ∃ a b, xs[j]? = some a ∧ ys[j]? = some b ∧ T a b := by
    intro xs ys h
    induction h with
    | nil => intro j; exact .inl ⟨rfl, rfl⟩
    | cons a h ih =>
      intro j
      cases j with
      | zero => exact .inr ⟨_, _, rfl, rfl, a⟩
      | succ j =>
        rcases ih j with ⟨e1, e2⟩ | ⟨x, y, e1, e2, t⟩
        · exact .inl ⟨by simpa using e1, by simpa using e2⟩
        · exact .inr ⟨x, y, by simpa using e1, by simpa using e2, t⟩
  unfold pick
  induction js with
  | nil => exact .nil
  | cons j js ih =>
    rcases g h j with ⟨e1, e2⟩ | ⟨a, b, e1, e2, t⟩
    · rw [List.filterMap_cons, List.filterMap_cons, e1, e2]
      exact ih
    · rw [List.filterMap_cons, List.filterMap_cons, e1, e2]
      exact .cons t ih
section
variable [LamT] {P : Program} {w : World} {K : PySem.W.Frag} {mg : Str → Option Value} {base : Heap} {k : Nat} {x qual : Str} {st : Stmt} {f : Addr} {fd : FuncData} {N ps ks : List Str} {js : List Nat} {mb : Env → IH → RS}
theorem dfKn (F : FunD K x qual (defArgs st) (defBody st) (defScope st) [] [] f fd) (S : FnScope N ps (defScope st)) (hm : mg x = some (.ref f))
    (h : ∀ (kV doc pm : Value) (an : Option Addr) (cdv ct : Value) (ws : List Value), ws.length = ks.length → bindArgs (PySem.W.fnOf x qual (defArgs st) (defBody st) (defScope st) .none kV doc pm an cdv ct) ⟨[], ks.zip ws⟩ = pure (ps.zip (pick js ws)))
    (hbody : BodyOk P w K mg base k N qual st f mb) : DfK P w K mg base (k + 1) x ps.length ks (pick js) (defRun N.length mb) := by
  refine ⟨fun h => pick_par h, f, fd, ps, rfl, hm, F.kp, df_fn2 F S hbody, ⟨fun s us ws _ h1 h2 => ?_, fun _ r2 => pick_par r2⟩⟩
  obtain ⟨oc, od, dV, kV, doc, pm, an, cdv, ct, osl, rfl, lk, hcd, hD, hK⟩ := F.ex
  match us, h1 with
  | [], _ =>
    rcases hD with ⟨_, rfl⟩ | ⟨e, _⟩
    · exact .of_eq (h kV doc pm an cdv ct ws h2)
    · exact absurd rfl e
end
end L3
/-! L4: how mirrors are run; sizes of ints. -/
namespace L3
instance : TabT := ⟨[]⟩
instance : LamT := ⟨[], [], fun _ _ => none⟩
open PySem PySem.Spec PyProof.Rows L2

theorem startI_cons (N : Nat) (a : IV) (r : List IV) : startI (N + 1) (a :: r) = some a :: startI N r := by
  unfold startI
  rw [List.map_cons, List.length_cons, Nat.add_sub_add_right]
  rfl
theorem startI_nil (N : Nat) : startI N [] = List.replicate N none := rfl
theorem rep_succ (N : Nat) : List.replicate (N + 1) (none : Option IV) = none :: List.replicate N none := rfl
theorem rep_zero : List.replicate 0 (none : Option IV) = [] := rfl

/-! ### operations, applied -/
section
variable {ih : IH} {i j : Int} {n m : Nat} {o : MO} {v : IV}
theorem a_int : f_int [.int i] ih = .ok (.int i) ih := rfl
theorem a_add : f_add (.int i) (.int j) ih = .ok (.int (i + j)) ih := rfl
theorem a_addI : f_addI (.int i) (.int j) ih = .ok (.int (i + j)) ih := rfl
theorem a_sub : f_sub (.int i) (.int j) ih = .ok (.int (i - j)) ih := rfl
theorem a_neg : f_neg (.int i) ih = .ok (.int (-i)) ih := rfl
theorem a_lt : f_lt (.int i) (.int j) ih = .ok (.bl (decide (i < j))) ih := rfl
theorem a_le : f_le (.int i) (.int j) ih = .ok (.bl (decide (i ≤ j))) ih := rfl
theorem a_gt : f_gt (.int i) (.int j) ih = .ok (.bl (decide (j < i))) ih := rfl
theorem a_ge : f_ge (.int i) (.int j) ih = .ok (.bl (decide (j ≤ i))) ih := rfl
theorem a_max2 : f_max2 [.int i, .int j] ih = .ok (.int (if j > i then j else i)) ih := rfl
theorem a_min2 : f_min2 [.int i, .int j] ih = .ok (.int (if j < i then j else i)) ih := rfl
theorem a_abs : f_abs [.int i] ih = .ok (.int (if i < 0 then -i else i)) ih := rfl
theorem a_mul (h : cMul i j = true) : f_mulA (.int i) (.int j) ih = .ok (.int (i * j)) ih := by
  show (if cMul i j = true then _ else _) = _
  rw [if_pos h]
theorem a_mulI (h : cMul i j = true) : f_mul (.int i) (.int j) ih = .ok (.int (i * j)) ih := by
  show (if cMul i j = true then _ else _) = _
  rw [if_pos h]
theorem a_fdiv (h : cDiv i j = true) : f_fdiv (.int i) (.int j) ih = .ok (.int (i / j)) ih := by
  show (if cDiv i j = true then _ else _) = _
  rw [if_pos h]
theorem a_mod (h : 0 < j) : f_mod (.int i) (.int j) ih = .ok (.int (i % j)) ih := by
  show (if cMod i j = true then _ else _) = _
  exact if_pos (decide_eq_true h)
theorem a_shl (h : cShl i j = true) : f_shl (.int i) (.int j) ih = .ok (.int (i * 2 ^ j.toNat)) ih := by
  show (if cShl i j = true then _ else _) = _
  rw [if_pos h]
theorem a_shr (h : 0 ≤ j) : f_shr (.int i) (.int j) ih = .ok (.int (i / 2 ^ j.toNat)) ih := by
  show (if cShr i j = true then _ else _) = _
  exact if_pos (decide_eq_true h)
theorem a_pow (h : cPow i j = true) : f_pow (.int i) (.int j) ih = .ok (.int (i ^ j.toNat)) ih := by
  show (if cPow i j = true then _ else _) = _
  rw [if_pos h]
theorem a_len (h : ih[n]? = some o) (hd : o.isS = true := by rfl) : f_len [.ref n] ih = .ok (.int o.xs.length) ih := by
  unfold f_len
  dsimp only
  rw [h]
  cases o with
  | dct => cases hd
  | dk _ => cases hd
  | clo => cases hd
  | fn _ _ => cases hd
  | _ => rfl
theorem a_ix (h : ih[n]? = some o) (hv : atI o.xs i = some v) : f_ix (.ref n) (.int i) ih = .ok v ih := by
  unfold f_ix
  dsimp only
  rw [h]
  dsimp only
  rw [hv]
theorem a_isN {x : IV} : f_isN x .non ih = .ok (.bl (decide (x = .non))) ih := by
  unfold f_isN
  rw [if_pos rfl]
theorem a_notN {x : IV} : f_notN x .non ih = .ok (.bl (!decide (x = .non))) ih := by
  unfold f_notN
  rw [if_pos rfl]
theorem a_lst {xs : List IV} (h : xs.length ≤ 100000) : f_lst xs ih = .ok (.ref ih.length) (ih ++ [.lst xs]) := by
  unfold f_lst
  rw [if_pos h]
theorem a_tup {xs : List IV} (h : xs.length ≤ 100000) : f_tup xs ih = .ok (.ref ih.length) (ih ++ [.tup xs]) := by
  unfold f_tup
  rw [if_pos h]
theorem a_list (h : ih[n]? = some o) (hd : o.isS = true := by rfl) : f_list [.ref n] ih = .ok (.ref ih.length) (ih ++ [.lst o.xs]) := by
  unfold f_list
  dsimp only
  rw [h]
  cases o with
  | dct => cases hd
  | dk _ => cases hd
  | clo => cases hd
  | fn _ _ => cases hd
  | _ => rfl
theorem a_append {xs : List IV} {y : IV} (h : ih[n]? = some (.lst xs)) (hl : xs.length < 100000) : f_append (.ref n) [y] ih = .ok .non (ih.set n (.lst (xs ++ [y]))) := by
  unfold f_append
  dsimp only
  rw [h]
  dsimp only
  rw [if_pos hl]
theorem a_isLst (h : ih[n]? = some o) (hl : o.isL = true) : isLst (.ref n) ih = true := by
  unfold isLst
  dsimp only
  rw [h]
  exact hl
theorem a_setL {xs : List IV} {y : IV} {k : Nat} (h : ih[n]? = some (.lst xs)) (hk : ixN xs.length i = some k) : f_setL (.ref n) (.int i) y ih = some (ih.set n (.lst (xs.set k y))) := by
  unfold f_setL
  dsimp only
  rw [h]
  dsimp only
  rw [hk]
theorem a_call {xs ds : List IV} {f : List IV → IH → Res IV} (h : (xs ++ ds).length = n) : f_call n ds f xs ih = f (xs ++ ds) ih := by
  unfold f_call
  rw [if_pos h]
theorem atI_ok {α : Type} {xs : List α} {k : Nat} {v : α} (hi : i = (k : Int)) (h : xs[k]? = some v) : atI xs i = some v := by
  rw [hi]
  exact atI_nat h
end
theorem atI_nn {α : Type} (xs : List α) (k : Nat) : atI xs (k : Int) = xs[k]? := by
  unfold atI ixN
  rw [if_pos (Int.natCast_nonneg k)]
  by_cases h : k < xs.length
  · rw [if_pos (by omega)]
    rfl
  · rw [if_neg (by omega), List.getElem?_eq_none (by omega)]
    rfl
theorem atI_0 {α : Type} (xs : List α) : atI xs 0 = xs[0]? := atI_nn xs 0
theorem atI_1 {α : Type} (xs : List α) : atI xs 1 = xs[1]? := atI_nn xs 1
theorem atI_2 {α : Type} (xs : List α) : atI xs 2 = xs[2]? := atI_nn xs 2
theorem atI_3 {α : Type} (xs : List α) : atI xs 3 = xs[3]? := atI_nn xs 3
theorem atI_4 {α : Type} (xs : List α) : atI xs 4 = xs[4]? := atI_nn xs 4
theorem atI_5 {α : Type} (xs : List α) : atI xs 5 = xs[5]? := atI_nn xs 5
theorem atI_6 {α : Type} (xs : List α) : atI xs 6 = xs[6]? := atI_nn xs 6
theorem atI_7 {α : Type} (xs : List α) : atI xs 7 = xs[7]? := atI_nn xs 7
theorem atI_8 {α : Type} (xs : List α) : atI xs 8 = xs[8]? := atI_nn xs 8
theorem atI_9 {α : Type} (xs : List α) : atI xs 9 = xs[9]? := atI_nn xs 9
theorem atI_10 {α : Type} (xs : List α) : atI xs 10 = xs[10]? := atI_nn xs 10
theorem atI_11 {α : Type} (xs : List α) : atI xs 11 = xs[11]? := atI_nn xs 11
theorem atI_12 {α : Type} (xs : List α) : atI xs 12 = xs[12]? := atI_nn xs 12
theorem ixN_30 : ixN 3 0 = some 0 := rfl
theorem ixN_31 : ixN 3 1 = some 1 := rfl
theorem ixN_32 : ixN 3 2 = some 2 := rfl
theorem xs_lst (xs : List IV) : (MO.lst xs).xs = xs := rfl
theorem xs_tup (xs : List IV) : (MO.tup xs).xs = xs := rfl
theorem xs_ro (xs : List IV) : (MO.ro xs).xs = xs := rfl
theorem xs_rot (xs : List IV) : (MO.rot xs).xs = xs := rfl
theorem isL_lst (xs : List IV) : (MO.lst xs).isL = true := rfl
theorem isL_tup (xs : List IV) : (MO.tup xs).isL = false := rfl
theorem isL_ro (xs : List IV) : (MO.ro xs).isL = true := rfl
theorem isT_tup (xs : List IV) : (MO.tup xs).isT = true := rfl
theorem isT_rot (xs : List IV) : (MO.rot xs).isT = true := rfl
theorem isL_rot (xs : List IV) : (MO.rot xs).isL = false := rfl
/-! ### sizes of ints -/
/-- an int of at most n bits -/
def B (n : Nat) (i : Int) : Prop := i.natAbs < 2 ^ n
section
variable {i j : Int} {n m k : Nat}
theorem B.mono (h : B n i) (e : n ≤ m) : B m i := Nat.lt_of_lt_of_le h (Nat.pow_le_pow_right (by decide) e)
theorem B.ib (h : B n i) : ibits i ≤ n := PyProof.Rows.intBits_le h
theorem B.of_ib (h : ibits i ≤ n) : B n i := by
  unfold ibits Builtin.Int.intBits at h
  split at h
  · rename_i h0
    have : i = 0 := by simpa using h0
    subst this
    exact Nat.two_pow_pos n
  · exact Nat.lt_of_lt_of_le Nat.lt_log2_self (Nat.pow_le_pow_right (by decide) h)
theorem B.add (h : B n i) (g : B n j) : B (n + 1) (i + j) := by
  unfold B at *
  rw [Nat.pow_succ]
  omega
theorem B.sub (h : B n i) (g : B n j) : B (n + 1) (i - j) := by
  unfold B at *
  rw [Nat.pow_succ]
  omega
theorem B.neg (h : B n i) : B n (-i) := by
  unfold B at *
  rw [Int.natAbs_neg]
  exact h
theorem B.mul (h : B n i) (g : B m j) : B (n + m) (i * j) := by
  unfold B at *
  rw [Int.natAbs_mul, Nat.pow_add]
  exact Nat.mul_lt_mul'' h g
theorem B.div (h : B n i) (g : 0 < j) : B n (i / j) := by
  unfold B at *
  have : (i / j).natAbs ≤ i.natAbs := by
    rcases Int.le_total 0 i with hi | hi
    · have h1 := Int.ediv_nonneg hi (Int.le_of_lt g)
      have h2 := Int.ediv_le_self j hi
      omega
    · have h1 : i / j ≤ 0 := by
        have := Int.ediv_le_ediv g hi
        rw [Int.zero_ediv] at this
        exact this
      have h2 : i ≤ i / j := by
        rw [Int.le_ediv_iff_mul_le g]
        have : i * j ≤ i * 1 := Int.mul_le_mul_of_nonpos_left hi (by omega)
        omega
      omega
  omega
theorem B.mod (g : 0 < j) (h : B n j) : B n (i % j) := by
  unfold B at *
  have h1 := Int.emod_nonneg i (Int.ne_of_gt g)
  have h2 := Int.emod_lt_of_pos i g
  omega
theorem B.le (h0 : 0 ≤ i) (h : i ≤ j) (g : B n j) : B n i := by
  unfold B at *
  omega
theorem B.lt (h0 : 0 ≤ i) (h : i < 2 ^ n) : B n i := by
  unfold B
  have e : ((2 ^ n : Nat) : Int) = 2 ^ n := by rw [Int.natCast_pow]; rfl
  omega
theorem B.cmul (h : B n i) (g : B m j) (e : n + m ≤ 134217728) : cMul i j = true := by
  have := h.ib
  have := g.ib
  exact decide_eq_true (by omega)
theorem cDiv_of (g : 0 < j) (h : B n j) (h0 : 0 < n) (e : n ≤ 9000) : cDiv i j = true := by
  unfold cDiv
  rw [Bool.and_eq_true]
  exact ⟨decide_eq_true g, decide_eq_true (Nat.lt_of_lt_of_le (PySem.Flt.log2_lt_of h0 h) e)⟩
theorem cShl_of (h : B n i) (e : n + k ≤ 134217728) : cShl i (k : Int) = true := by
  have := h.ib
  unfold cShl
  rw [Bool.and_eq_true]
  exact ⟨decide_eq_true (by omega), decide_eq_true (by omega)⟩
end

/-! ### heaps that grow -/
def Ext (a b : IH) : Prop := ∀ (n : Nat) (o : MO), a[n]? = some o → b[n]? = some o
theorem Ext.refl (a : IH) : Ext a a := fun _ _ h => h
theorem Ext.trans {a b d : IH} (h : Ext a b) (k : Ext b d) : Ext a d := fun n o e => k n o (h n o e)
theorem Ext.app (a b : IH) : Ext a (a ++ b) := fun n o e => by
  rw [List.getElem?_append_left (List.getElem?_eq_some_iff.mp e).1]
  exact e
/-- all objects but the one at p stay -/
def ExtP (p : Nat) (a b : IH) : Prop := ∀ (n : Nat) (o : MO), n ≠ p → a[n]? = some o → b[n]? = some o
theorem ExtP.refl (p : Nat) (a : IH) : ExtP p a a := fun _ _ _ h => h
theorem ExtP.trans {p : Nat} {a b d : IH} (h : ExtP p a b) (k : ExtP p b d) : ExtP p a d := fun n o hn e => k n o hn (h n o hn e)
theorem Ext.p {a b : IH} (h : Ext a b) (p : Nat) : ExtP p a b := fun n o _ e => h n o e
theorem ExtP.set (p : Nat) (a : IH) (o : MO) : ExtP p a (a.set p o) := fun n u hn e => by
  rw [List.getElem?_set_ne (Ne.symm hn)]
  exact e
theorem get_new (a : IH) (o : MO) : (a ++ [o])[a.length]? = some o := by
  rw [List.getElem?_append_right (Nat.le_refl _), Nat.sub_self]
  rfl
theorem get_set {a : IH} {p : Nat} {o u : MO} (h : a[p]? = some u) : (a.set p o)[p]? = some o := List.getElem?_set_self (List.getElem?_eq_some_iff.mp h).1
theorem lt_of_get {a : IH} {p : Nat} {u : MO} (h : a[p]? = some u) : p < a.length := (List.getElem?_eq_some_iff.mp h).1
end L3
/-! L6: loops and comprehensions of mirrors. -/
namespace L3
open PySem PySem.Spec PyProof.Rows L2

/-! ### for -/
/-- a loop whose turns all go on -/
theorem forGo_ind {s : Src} {g : IV → Env → IH → Option Env} {mb : Env → IH → RS} (k : Nat) (P : Nat → Env → IH → Prop)
    (turn : ∀ i env ih, i < k → P i env ih → ∃ v ih1 env1 env2 ih2, s.turn i ih = .item v ih1 ∧ g v env ih1 = some env1 ∧ mb env1 ih1 = .ok (.next env2) ih2 ∧ P (i + 1) env2 ih2)
    (stop : ∀ env ih, P k env ih → s.turn k ih = .stop) :
    ∀ (f i : Nat) (env : Env) (ih : IH), i ≤ k → k - i < f → P i env ih → ∃ env' ih', forGo s g mb f i env ih = .ok (.next env') ih' ∧ P k env' ih' := by
  intro f
  induction f with
  | zero => intro i env ih h1 h2; omega
  | succ f ihf =>
    intro i env ih h1 h2 hp
    unfold forGo
    by_cases hk : i = k
    · subst hk
      rw [stop env ih hp]
      exact ⟨env, ih, rfl, hp⟩
    · obtain ⟨v, ih1, env1, env2, ih2, t1, t2, t3, t4⟩ := turn i env ih (by omega) hp
      rw [t1]
      dsimp only
      rw [t2]
      dsimp only
      rw [t3]
      exact ihf (i + 1) env2 ih2 (by omega) (by omega) t4
/-- a loop that may hand back -/
theorem forGo_ret {s : Src} {g : IV → Env → IH → Option Env} {mb : Env → IH → RS} (k : Nat) (P : Nat → Env → IH → Prop) (Z : IV → IH → Prop)
    (turn : ∀ i env ih, i < k → P i env ih → ∃ v ih1 env1, s.turn i ih = .item v ih1 ∧ g v env ih1 = some env1 ∧ ((∃ env2 ih2, mb env1 ih1 = .ok (.next env2) ih2 ∧ P (i + 1) env2 ih2) ∨ ∃ u ih2, mb env1 ih1 = .ok (.ret u) ih2 ∧ Z u ih2))
    (stop : ∀ env ih, P k env ih → s.turn k ih = .stop) :
    ∀ (f i : Nat) (env : Env) (ih : IH), i ≤ k → k - i < f → P i env ih → (∃ env' ih', forGo s g mb f i env ih = .ok (.next env') ih' ∧ P k env' ih') ∨ ∃ u ih', forGo s g mb f i env ih = .ok (.ret u) ih' ∧ Z u ih' := by
  intro f
  induction f with
  | zero => intro i env ih h1 h2; omega
  | succ f ihf =>
    intro i env ih h1 h2 hp
    unfold forGo
    by_cases hk : i = k
    · subst hk
      rw [stop env ih hp]
      exact .inl ⟨env, ih, rfl, hp⟩
    · obtain ⟨v, ih1, env1, t1, t2, t3⟩ := turn i env ih (by omega) hp
      rw [t1]
      dsimp only
      rw [t2]
      dsimp only
      rcases t3 with ⟨env2, ih2, t3, t4⟩ | ⟨u, ih2, t3, t4⟩
      · rw [t3]
        exact ihf (i + 1) env2 ih2 (by omega) (by omega) t4
      · rw [t3]
        exact .inr ⟨u, ih2, rfl, t4⟩
theorem turn_rng {lo d : Int} {k i : Nat} {ih : IH} (h : i < k) : (Src.rng lo d k).turn i ih = .item (.int (lo + (i : Int) * d)) ih := if_pos h
theorem stop_rng {lo d : Int} {k : Nat} {ih : IH} : (Src.rng lo d k).turn k ih = .stop := if_neg (Nat.lt_irrefl k)
theorem lAt_of {ih : IH} {n : Nat} {o : MO} (h : ih[n]? = some o) (hl : o.isL = true) : lAt ih n true = some o.xs := by
  unfold lAt
  rw [h]
  exact if_pos hl
theorem turn_lst {ih : IH} {n i : Nat} {o : MO} {v : IV} (h : ih[n]? = some o) (hl : o.isL = true) (hv : o.xs[i]? = some v) : (Src.lst n).turn i ih = .item v ih := by
  unfold Src.turn
  dsimp only
  rw [lAt_of h hl]
  dsimp only
  rw [hv]
theorem stop_lst {ih : IH} {n : Nat} {o : MO} (h : ih[n]? = some o) (hl : o.isL = true) : (Src.lst n).turn o.xs.length ih = .stop := by
  unfold Src.turn
  dsimp only
  rw [lAt_of h hl]
  dsimp only
  rw [List.getElem?_eq_none (Nat.le_refl _)]
theorem turn_enm {ih : IH} {n i : Nat} {o : MO} {v : IV} (h : ih[n]? = some o) (hl : o.isL = true) (hv : o.xs[i]? = some v) : (Src.enm n).turn i ih = .item (.ref ih.length) (ih ++ [.tup [.int (i : Int), v]]) := by
  unfold Src.turn
  dsimp only
  rw [lAt_of h hl]
  dsimp only
  rw [hv]
theorem stop_enm {ih : IH} {n : Nat} {o : MO} (h : ih[n]? = some o) (hl : o.isL = true) : (Src.enm n).turn o.xs.length ih = .stop := by
  unfold Src.turn
  dsimp only
  rw [lAt_of h hl]
  dsimp only
  rw [List.getElem?_eq_none (Nat.le_refl _)]
theorem turn_zip {ih : IH} {n m i : Nat} {o u : MO} {v w : IV} (h : ih[n]? = some o) (hl : o.isL = true) (hv : o.xs[i]? = some v) (h2 : ih[m]? = some u) (hl2 : u.isL = true) (hw : u.xs[i]? = some w) : (Src.zip n m).turn i ih = .item (.ref ih.length) (ih ++ [.tup [v, w]]) := by
  unfold Src.turn
  dsimp only
  rw [lAt_of h hl, lAt_of h2 hl2]
  dsimp only
  rw [hv, hw]
theorem stop_zip {ih : IH} {n m i : Nat} {o u : MO} (h : ih[n]? = some o) (hl : o.isL = true) (h2 : ih[m]? = some u) (hl2 : u.isL = true) (hi : o.xs.length ≤ i ∨ u.xs.length ≤ i) : (Src.zip n m).turn i ih = .stop := by
  unfold Src.turn
  dsimp only
  rw [lAt_of h hl, lAt_of h2 hl2]
  dsimp only
  rcases hi with hi | hi
  · rw [List.getElem?_eq_none hi]
  · rw [List.getElem?_eq_none hi]
    split <;> first | rfl | (rename_i z; cases z)
theorem for_rng1 {g : IV → Env → IH → Option Env} {mb : Env → IH → RS} {m : Env → IH → Res (List IV)} {env : Env} {ih ih1 : IH} {j : Int} (hm : m env ih = .ok [.int j] ih1) (hj : smallI j = true) : ms_for (mi_rng1 m) g mb env ih = forGo (.rng 0 1 j.toNat) g mb (j.toNat + 1) 0 env ih1 := by
  unfold ms_for mi_rng1
  rw [hm, Res.bind_ok]
  dsimp only
  rw [if_pos hj]
  rfl
theorem for_rng2 {g : IV → Env → IH → Option Env} {mb : Env → IH → RS} {m : Env → IH → Res (List IV)} {env : Env} {ih ih1 : IH} {i j : Int} (hm : m env ih = .ok [.int i, .int j] ih1) (hi : smallI i = true) (hj : smallI j = true) : ms_for (mi_rng2 m) g mb env ih = forGo (.rng i 1 (j - i).toNat) g mb ((j - i).toNat + 1) 0 env ih1 := by
  unfold ms_for mi_rng2
  rw [hm, Res.bind_ok]
  dsimp only
  rw [if_pos ⟨hi, hj⟩]
  rfl
theorem for_lst {g : IV → Env → IH → Option Env} {mb : Env → IH → RS} {m : Env → IH → Res IV} {env : Env} {ih ih1 : IH} {n : Nat} {o : MO} (hm : m env ih = .ok (.ref n) ih1) (h : ih1[n]? = some o) (hl : o.isL = true) : ms_for (mi_lst m) g mb env ih = forGo (.lst n) g mb (o.xs.length + 1) 0 env ih1 := by
  unfold ms_for mi_lst
  rw [hm, Res.bind_ok]
  dsimp only
  rw [lAt_of h hl]
  show forGo (.lst n) g mb ((Src.lst n).size ih1 + 1) 0 env ih1 = _
  unfold Src.size
  dsimp only
  rw [h]
theorem for_enm {g : IV → Env → IH → Option Env} {mb : Env → IH → RS} {m : Env → IH → Res (List IV)} {env : Env} {ih ih1 : IH} {n : Nat} {o : MO} (hm : m env ih = .ok [.ref n] ih1) (h : ih1[n]? = some o) (hl : o.isL = true) : ms_for (mi_enm m) g mb env ih = forGo (.enm n) g mb (o.xs.length + 1) 0 env ih1 := by
  unfold ms_for mi_enm
  rw [hm, Res.bind_ok]
  dsimp only
  rw [lAt_of h hl]
  show forGo (.enm n) g mb ((Src.enm n).size ih1 + 1) 0 env ih1 = _
  unfold Src.size
  dsimp only
  rw [h]
theorem smallI_mk {i : Int} (h : -(2 ^ 62) ≤ i) (h2 : i < 2 ^ 62) : smallI i = true := by
  unfold smallI
  rw [decide_eq_true h, decide_eq_true h2]
  rfl

/-! ### comprehensions -/
theorem lcGo_ind {s : Src} {g : IV → Env → IH → Option Env} {n : Env → IH → Res Bool} {me : Env → IH → Res IV} {d : Nat} {env : Env} (k : Nat) (P : Nat → List IV → IH → Prop)
    (turn : ∀ i acc ih, i < k → P i acc ih → ih[d]? = some (.lst acc) → ∃ v ih1 env1 b ih2, s.turn i ih = .item v ih1 ∧ g v env ih1 = some env1 ∧ n env1 ih1 = .ok b ih2 ∧ (b = false → ih2[d]? = some (.lst acc) ∧ P (i + 1) acc ih2) ∧
      (b = true → ∃ y ih3, me env1 ih2 = .ok y ih3 ∧ ih3[d]? = some (.lst acc) ∧ acc.length < 100000 ∧ P (i + 1) (acc ++ [y]) (ih3.set d (.lst (acc ++ [y])))))
    (stop : ∀ acc ih, P k acc ih → ih[d]? = some (.lst acc) → s.turn k ih = .stop) :
    ∀ (f i : Nat) (acc : List IV) (ih : IH), i ≤ k → k - i < f → P i acc ih → ih[d]? = some (.lst acc) → ∃ acc' ih', lcGo s g n me d env f i ih = .ok (.ref d) ih' ∧ ih'[d]? = some (.lst acc') ∧ P k acc' ih' := by
  intro f
  induction f with
  | zero => intro i acc ih h1 h2; omega
  | succ f ihf =>
    intro i acc ih h1 h2 hp hd
    unfold lcGo
    by_cases hk : i = k
    · subst hk
      rw [stop acc ih hp hd]
      exact ⟨acc, ih, rfl, hd, hp⟩
    · obtain ⟨v, ih1, env1, b, ih2, t1, t2, t3, t4, t5⟩ := turn i acc ih (by omega) hp hd
      rw [t1]
      dsimp only
      rw [t2]
      dsimp only
      rw [t3]
      cases b with
      | false =>
        obtain ⟨h3, h4⟩ := t4 rfl
        exact ihf (i + 1) acc ih2 (by omega) (by omega) h4 h3
      | true =>
        obtain ⟨y, ih3, h3, h4, h5, h6⟩ := t5 rfl
        dsimp only
        rw [h3]
        dsimp only
        rw [h4]
        dsimp only
        rw [if_pos h5]
        exact ihf (i + 1) (acc ++ [y]) _ (by omega) (by omega) h6 (get_set h4)
theorem set_append_last (a : IH) (o u : MO) : (a ++ [o]).set a.length u = a ++ [u] := by
  rw [List.set_append_right _ _ (Nat.le_refl _), Nat.sub_self]
  rfl
/-- [me for x in xs if n], over a list; the parts leave the heap -/
theorem lc_lst {vs : List Nat} {m : Env → IH → Res IV} {i : Nat} {n : Env → IH → Res Bool} {me : Env → IH → Res IV} {env : Env} {ih ih1 : IH} {p : Nat} {o : MO} (F : IV → IV) (T : IV → Bool) (hm : m env ih = .ok (.ref p) ih1) (ho : ih1[p]? = some o) (hl : o.isL = true) (hz : o.xs.length < 100000)
    (ht : ∀ x ∈ o.xs, ∀ ih', Ext ih1 ih' → n ((wipeI env vs).set i (some x)) ih' = .ok (T x) ih') (he : ∀ x ∈ o.xs, T x = true → ∀ ih', Ext ih1 ih' → me ((wipeI env vs).set i (some x)) ih' = .ok (F x) ih') :
    m_lc vs (mi_lst m) (g_nm i) n me env ih = .ok (.ref ih1.length) (ih1 ++ [.lst ((o.xs.filter T).map F)]) := by
  unfold m_lc mi_lst
  rw [hm, Res.bind_ok]
  dsimp only
  rw [lAt_of ho hl]
  dsimp only
  rw [Res.bind_ok]
  have hs : (Src.lst p).size ih1 = o.xs.length := by
    unfold Src.size
    dsimp only
    rw [ho]
  rw [hs]
  obtain ⟨acc', ih', e1, e2, e3⟩ := lcGo_ind (s := .lst p) (g := g_nm i) (n := n) (me := me) (d := ih1.length) (env := wipeI env vs) o.xs.length (fun k acc ih => acc = ((o.xs.take k).filter T).map F ∧ ih = ih1 ++ [.lst acc])
    (fun k acc ih hk ⟨ha, hi⟩ hd => by
      subst hi
      have hx : (ih1 ++ [MO.lst acc])[p]? = some o := Ext.app _ _ _ _ ho
      have hxk : o.xs[k]? = some o.xs[k] := List.getElem?_eq_getElem hk
      have hmem : o.xs[k] ∈ o.xs := List.getElem_mem hk
      have etk : (o.xs.take (k + 1)) = o.xs.take k ++ [o.xs[k]] := by rw [List.take_add_one, hxk]; rfl
      refine ⟨o.xs[k], _, _, T o.xs[k], _, turn_lst hx hl hxk, rfl, ht _ hmem _ (Ext.app _ _), fun hb => ⟨hd, ?_, rfl⟩, fun hb => ⟨_, _, he _ hmem hb _ (Ext.app _ _), hd, ?_, ?_, ?_⟩⟩
      · rw [etk, List.filter_append, ha, List.filter_cons, hb]
        simp
      · rw [ha, List.length_map]
        exact Nat.lt_of_le_of_lt (List.length_filter_le _ _) (Nat.lt_of_le_of_lt (List.length_take_le' _ _) hz)
      · rw [etk, List.filter_append, ha, List.filter_cons, hb]
        simp
      · rw [set_append_last])
    (fun acc ih ⟨ha, hi⟩ hd => by
      subst hi
      exact stop_lst (Ext.app _ _ _ _ ho) hl)
    (o.xs.length + 1) 0 [] (ih1 ++ [.lst []]) (Nat.zero_le _) (by omega) ⟨by simp, rfl⟩ (get_new _ _)
  rw [e1]
  obtain ⟨h1, h2⟩ := e3
  rw [h2, h1, List.take_length]
theorem filter_true (xs : List IV) : xs.filter (fun _ => true) = xs := List.filter_eq_self.mpr fun _ _ => rfl
/-- without a test -/
theorem lc_map {vs : List Nat} {m : Env → IH → Res IV} {i : Nat} {me : Env → IH → Res IV} {env : Env} {ih ih1 : IH} {p : Nat} {o : MO} (F : IV → IV) (hm : m env ih = .ok (.ref p) ih1) (ho : ih1[p]? = some o) (hl : o.isL = true) (hz : o.xs.length < 100000)
    (he : ∀ x ∈ o.xs, ∀ ih', Ext ih1 ih' → me ((wipeI env vs).set i (some x)) ih' = .ok (F x) ih') :
    m_lc vs (mi_lst m) (g_nm i) n_yes me env ih = .ok (.ref ih1.length) (ih1 ++ [.lst (o.xs.map F)]) := by
  have h := lc_lst (n := n_yes) F (fun _ => true) hm ho hl hz (fun x _ ih' _ => rfl) (fun x hx _ ih' e => he x hx ih' e)
  rw [filter_true] at h
  exact h
/-- over a range -/
theorem lc_rng {vs : List Nat} {m : Env → IH → Res (List IV)} {i : Nat} {me : Env → IH → Res IV} {env : Env} {ih ih1 : IH} {j : Int} (F : Nat → IV) (hm : m env ih = .ok [.int j] ih1) (hj : smallI j = true) (hz : j < 100000)
    (he : ∀ k : Nat, (k : Int) < j → ∀ ih', Ext ih1 ih' → me ((wipeI env vs).set i (some (.int (k : Int)))) ih' = .ok (F k) ih') :
    m_lc vs (mi_rng1 m) (g_nm i) n_yes me env ih = .ok (.ref ih1.length) (ih1 ++ [.lst ((List.range j.toNat).map F)]) := by
  unfold m_lc mi_rng1
  rw [hm, Res.bind_ok]
  dsimp only
  rw [if_pos hj, Res.bind_ok]
  show lcGo (.rng 0 1 j.toNat) (g_nm i) n_yes me ih1.length (wipeI env vs) (j.toNat + 1) 0 (ih1 ++ [.lst []]) = _
  obtain ⟨acc', ih', e1, e2, e3⟩ := lcGo_ind (s := .rng 0 1 j.toNat) (g := g_nm i) (n := n_yes) (me := me) (d := ih1.length) (env := wipeI env vs) j.toNat (fun k acc ih => acc = (List.range k).map F ∧ ih = ih1 ++ [.lst acc])
    (fun k acc ih hk ⟨ha, hi⟩ hd => by
      subst hi
      have e0 : (0 : Int) + (k : Int) * 1 = (k : Int) := by omega
      refine ⟨.int (k : Int), _, _, true, _, by rw [turn_rng hk, e0], rfl, rfl, (fun hb => nomatch hb), fun _ => ⟨_, _, he k (by omega) _ (Ext.app _ _), hd, ?_, ?_, ?_⟩⟩
      · rw [ha, List.length_map, List.length_range]
        omega
      · rw [ha, List.range_succ, List.map_append]
        rfl
      · rw [set_append_last])
    (fun acc ih _ hd => stop_rng) (j.toNat + 1) 0 [] (ih1 ++ [.lst []]) (Nat.zero_le _) (by omega) ⟨by simp, rfl⟩ (get_new _ _)
  rw [e1]
  obtain ⟨h1, h2⟩ := e3
  rw [h2, h1]
theorem ExtP.of_set {a b : IH} {d : Nat} {o : MO} (h : Ext a b) (hd : a.length ≤ d) : Ext a (b.set d o) := fun n u e => by
  have := (List.getElem?_eq_some_iff.mp e).1
  rw [List.getElem?_set_ne (by omega)]
  exact h n u e
/-- [me for a, b in zip(xs, ys)]: the pairs stay behind -/
theorem lc_zip {vs : List Nat} {m : Env → IH → Res (List IV)} {i j : Nat} {me : Env → IH → Res IV} {env : Env} {ih ih1 : IH} {p q : Nat} {o u : MO} (F : IV → IV → IV) (hm : m env ih = .ok [.ref p, .ref q] ih1) (ho : ih1[p]? = some o) (hl : o.isL = true) (hu : ih1[q]? = some u) (hl2 : u.isL = true) (hz : o.xs.length < 100000)
    (he : ∀ (k : Nat) (x y : IV), o.xs[k]? = some x → u.xs[k]? = some y → ∀ ih', Ext ih1 ih' → me (((wipeI env vs).set i (some x)).set j (some y)) ih' = .ok (F x y) ih') :
    ∃ ih', m_lc vs (mi_zip m) (g_tup 2 (g_cons (g_nm i) (g_cons (g_nm j) g_nil))) n_yes me env ih = .ok (.ref ih1.length) ih' ∧ Ext ih1 ih' ∧ ih'[ih1.length]? = some (.lst (List.zipWith F o.xs u.xs)) := by
  unfold m_lc mi_zip
  rw [hm, Res.bind_ok]
  dsimp only
  rw [lAt_of ho hl, lAt_of hu hl2]
  dsimp only
  rw [Res.bind_ok]
  have hs : (Src.zip p q).size ih1 = o.xs.length := by
    unfold Src.size
    dsimp only
    rw [ho]
  rw [hs]
  obtain ⟨acc', ih', e1, e2, e3⟩ := lcGo_ind (s := .zip p q) (g := g_tup 2 (g_cons (g_nm i) (g_cons (g_nm j) g_nil))) (n := n_yes) (me := me) (d := ih1.length) (env := wipeI env vs) (min o.xs.length u.xs.length) (fun k acc ih => acc = List.zipWith F (o.xs.take k) (u.xs.take k) ∧ Ext ih1 ih)
    (fun k acc ih hk ⟨ha, hi⟩ hd => by
      have hk1 : k < o.xs.length := by omega
      have hk2 : k < u.xs.length := by omega
      have hx : o.xs[k]? = some o.xs[k] := List.getElem?_eq_getElem hk1
      have hy : u.xs[k]? = some u.xs[k] := List.getElem?_eq_getElem hk2
      have e0 : Ext ih (ih ++ [.tup [o.xs[k], u.xs[k]]]) := Ext.app _ _
      refine ⟨.ref ih.length, _, _, true, _, turn_zip (hi _ _ ho) hl hx (hi _ _ hu) hl2 hy, ?_, rfl, (fun hb => nomatch hb), fun _ => ⟨_, _, he k _ _ hx hy _ (hi.trans e0), e0 _ _ hd, ?_, ?_, ?_⟩⟩
      · unfold g_tup
        dsimp only
        rw [get_new]
        rfl
      · rw [ha, List.length_zipWith, List.length_take, List.length_take]
        omega
      · have e3 : o.xs.take (k + 1) = o.xs.take k ++ [o.xs[k]] := by rw [List.take_add_one, hx]; rfl
        have e4 : u.xs.take (k + 1) = u.xs.take k ++ [u.xs[k]] := by rw [List.take_add_one, hy]; rfl
        rw [ha, e3, e4, List.zipWith_append (by rw [List.length_take, List.length_take]; omega)]
        rfl
      · exact ExtP.of_set (hi.trans e0) (Nat.le_refl _))
    (fun acc ih ⟨ha, hi⟩ hd => stop_zip (hi _ _ ho) hl (hi _ _ hu) hl2 (by omega))
    (o.xs.length + 1) 0 [] (ih1 ++ [.lst []]) (Nat.zero_le _) (by omega) ⟨by simp, Ext.app _ _⟩ (get_new _ _)
  refine ⟨ih', e1, e3.2, ?_⟩
  rw [e2, e3.1]
  congr 2
  exact (List.zipWith_eq_zipWith_take_min (f := F)).symm

/-! ### built-ins over lists -/
theorem a_ints {g : List Int → IH → Res IV} {n : Nat} {ih : IH} {o : MO} {ns : List Int} (h : ih[n]? = some o) (hl : o.isL = true) (hx : o.xs = ns.map IV.int) : f_ints g [.ref n] ih = g ns ih := by
  unfold f_ints
  dsimp only
  rw [h]
  dsimp only
  rw [if_pos hl, hx, ints?_map]
theorem a_bls {g : List Bool → IH → Res IV} {n : Nat} {ih : IH} {o : MO} {ns : List Bool} (h : ih[n]? = some o) (hl : o.isL = true) (hx : o.xs = ns.map IV.bl) : f_bls g [.ref n] ih = g ns ih := by
  unfold f_bls
  dsimp only
  rw [h]
  dsimp only
  rw [if_pos hl, hx, bls?_map]
theorem a_sum {n : Nat} {ih : IH} {o : MO} {ns : List Int} (h : ih[n]? = some o) (hl : o.isL = true) (hx : o.xs = ns.map IV.int) : f_sum [.ref n] ih = .ok (.int ns.sum) ih := a_ints h hl hx
theorem a_all {n : Nat} {ih : IH} {o : MO} {ns : List Bool} (h : ih[n]? = some o) (hl : o.isL = true) (hx : o.xs = ns.map IV.bl) : f_all [.ref n] ih = .ok (.bl (ns.all id)) ih := a_bls h hl hx
theorem a_any {n : Nat} {ih : IH} {o : MO} {ns : List Bool} (h : ih[n]? = some o) (hl : o.isL = true) (hx : o.xs = ns.map IV.bl) : f_any [.ref n] ih = .ok (.bl (ns.any id)) ih := a_bls h hl hx
theorem a_slL {n : Nat} {ih : IH} {xs : List IV} {lo hi : Option Int} (h : ih[n]? = some (.lst xs)) : f_sl (.ref n) lo hi ih = .ok (.ref ih.length) (ih ++ [.lst (cutI xs lo hi)]) := by
  unfold f_sl
  dsimp only
  rw [h]
theorem cutI_1 (xs : List IV) : cutI xs (some 1) none = xs.drop 1 := by
  unfold cutI
  rw [show HT.sIx xs.length 0 (some 1) = min 1 xs.length from HT.sIx_nat xs.length 0 1, HT.sIx_none]
  cases xs with
  | nil => rfl
  | cons x r =>
    rw [show min 1 (x :: r).length = 1 by rw [List.length_cons]; omega]
    show (List.take ((x :: r).length - 1) r) = r
    rw [List.length_cons, Nat.add_sub_cancel]
    exact List.take_length
/-! ### equal data -/
theorem Is.ext {a b : IH} (e : Ext a b) : ∀ (d : PyData) (v : IV), Is a v d → Is b v d := by
  intro d
  have both : (∀ (d : PyData) (v : IV), Is a v d → Is b v d) ∧ (∀ (ds : List PyData) (vs : List IV), IsAll a vs ds → IsAll b vs ds) := by
    constructor
    · intro d v h
      exact Is.rec (motive_1 := fun v d _ => Is b v d) (motive_2 := fun vs ds _ => IsAll b vs ds) .non .bl .int .str (fun h1 h2 _ h3 => .lst (e _ _ h1) h2 h3) (fun h1 h2 _ h3 => .tup (e _ _ h1) h2 h3) .nil (fun _ _ h1 h2 => .cons h1 h2) h
    · intro ds vs h
      exact IsAll.rec (motive_1 := fun v d _ => Is b v d) (motive_2 := fun vs ds _ => IsAll b vs ds) .non .bl .int .str (fun h1 h2 _ h3 => .lst (e _ _ h1) h2 h3) (fun h1 h2 _ h3 => .tup (e _ _ h1) h2 h3) .nil (fun _ _ h1 h2 => .cons h1 h2) h
  exact both.1 d
theorem IsAll.ints (ih : IH) : ∀ ns : List Int, IsAll ih (ns.map IV.int) (ns.map PyData.int)
  | [] => .nil
  | n :: r => .cons (.int n) (IsAll.ints ih r)
theorem Is.ints {ih : IH} {n : Nat} {o : MO} {ns : List Int} (h : ih[n]? = some o) (hl : o.isL = true) (hx : o.xs = ns.map IV.int) : Is ih (.ref n) (.list (ns.map .int)) := .lst h hl (hx ▸ IsAll.ints ih ns)
theorem shaped_int (i : Int) : SeqAt.shaped (.int i) = true := by
  unfold SeqAt.shaped
  simp [PyData.canLay0, PyData.depth]
theorem canLay_ints : ∀ ns : List Int, PyData.canLayAll0 (ns.map PyData.int) = true
  | [] => by simp [PyData.canLayAll0]
  | n :: r => by
    rw [List.map_cons]
    simp [PyData.canLayAll0, PyData.canLay0, canLay_ints r]
theorem depth_ints : ∀ ns : List Int, PyData.depthAll (ns.map PyData.int) = 0
  | [] => by simp [PyData.depthAll]
  | n :: r => by
    rw [List.map_cons]
    simp [PyData.depthAll, PyData.depth, depth_ints r]
theorem shaped_ints (ns : List Int) : SeqAt.shaped (.list (ns.map .int)) = true := by
  unfold SeqAt.shaped
  simp [PyData.canLay0, PyData.depth, canLay_ints, depth_ints]
theorem eqv_ints : ∀ ns ms : List Int, PyData.eqvAll (ns.map .int) (ms.map .int) = decide (ns = ms)
  | [], [] => by simp [PyData.eqvAll]
  | [], _ :: _ => by simp [PyData.eqvAll]
  | _ :: _, [] => by simp [PyData.eqvAll]
  | n :: r, m :: s => by
    rw [List.map_cons, List.map_cons]
    simp only [PyData.eqvAll, PyData.eqv, eqv_ints r s]
    by_cases h : n = m
    · subst h
      simp
    · simp [h]
theorem eqv_list (ns ms : List Int) : PyData.eqv (.list (ns.map .int)) (.list (ms.map .int)) = decide (ns = ms) := by
  simp only [PyData.eqv, eqv_ints]
theorem eqv_same {d : PyData} (h : SeqAt.shaped d = true) : PyData.eqv d d = true := by
  unfold SeqAt.shaped at h
  rw [Bool.and_eq_true] at h
  exact PySem.SeqAt.eqv_refl d h.1
theorem a_eq_int {i j : Int} {ih : IH} : f_eq (.int i) (.int j) ih = .ok (.bl (decide (i = j))) ih := by
  rw [f_eq_of (.int i) (.int j) (shaped_int i) (shaped_int j)]
  simp only [PyData.eqv]
  rfl
theorem a_ne_int {i j : Int} {ih : IH} : f_ne (.int i) (.int j) ih = .ok (.bl (!decide (i = j))) ih := by
  rw [f_ne_of (.int i) (.int j) (shaped_int i) (shaped_int j)]
  simp only [PyData.eqv]
  rfl
/-- equal things: != is False, == is True -/
theorem a_ne_same {x y : IV} {ih : IH} {d : PyData} (h1 : Is ih x d) (h2 : Is ih y d) (s : SeqAt.shaped d = true) : f_ne x y ih = .ok (.bl false) ih := by
  rw [f_ne_of h1 h2 s s, eqv_same s]
  rfl
theorem a_eq_same {x y : IV} {ih : IH} {d : PyData} (h1 : Is ih x d) (h2 : Is ih y d) (s : SeqAt.shaped d = true) : f_eq x y ih = .ok (.bl true) ih := by
  rw [f_eq_of h1 h2 s s, eqv_same s]
end L3
/-! L7: mirrors, run backwards: what is wanted behind a mirror. -/
namespace L3
open PySem PySem.Spec PyProof.Rows L2

abbrev PQ (α : Type) := α → IH → Prop
abbrev EQ := Addr → IH → Prop
abbrev SQ := Fl → IH → Prop
abbrev ES := Addr → Env → IH → Prop
@[irreducible] def wp {α : Type} (r : Res α) (Q : PQ α) (E : EQ) : Prop := match r with
  | .ok v ih => Q v ih
  | .exc c ih => E c ih
  | .stuck => False
@[irreducible] def ws (r : RS) (Q : SQ) (E : ES) : Prop := match r with
  | .ok f ih => Q f ih
  | .exc c env ih => E c env ih
  | .stuck => False
def E0 : EQ := fun _ _ => False
def S0 : ES := fun _ _ _ => False
def kE (E : ES) (env : Env) : EQ := fun c ih => E c env ih
section
variable {α β : Type} {v : α} {ih : IH} {Q Q' : PQ α} {E E' : EQ} {c : Addr} {r : Res α} {env : Env} {f : Fl} {S : SQ} {F : ES}
theorem wp_ok : wp (.ok v ih) Q E = Q v ih := by with_unfolding_all rfl
theorem wp_exc : wp (.exc c ih) Q E = E c ih := by with_unfolding_all rfl
theorem wp_stuck : wp (.stuck) Q E = False := by with_unfolding_all rfl
theorem ws_ok : ws (.ok f ih) S F = S f ih := by with_unfolding_all rfl
theorem ws_exc : ws (.exc c env ih) S F = F c env ih := by with_unfolding_all rfl
theorem ws_stuck : ws .stuck S F = False := by with_unfolding_all rfl
theorem wp.imp (h : wp r Q E) (q : ∀ v ih, Q v ih → Q' v ih) (e : ∀ c ih, E c ih → E' c ih) : wp r Q' E' := by
  cases r with
  | ok v ih => rw [wp_ok] at h ⊢; exact q _ _ h
  | exc c ih => rw [wp_exc] at h ⊢; exact e _ _ h
  | stuck => rw [wp_stuck] at h; exact h.elim
theorem ws.imp {r : RS} {S' : SQ} {F' : ES} (h : ws r S F) (q : ∀ v ih, S v ih → S' v ih) (e : ∀ c env ih, F c env ih → F' c env ih) : ws r S' F' := by
  cases r with
  | ok v ih => rw [ws_ok] at h ⊢; exact q _ _ h
  | exc c env ih => rw [ws_exc] at h ⊢; exact e _ _ _ h
  | stuck => rw [ws_stuck] at h; exact h.elim
theorem wp_bind {r : Res α} {k : α → IH → Res β} {Q : PQ β} : wp (r.bind k) Q E = wp r (fun v ih => wp (k v ih) Q E) E := by
  cases r <;> with_unfolding_all rfl
theorem ws_stm {r : Res α} {k : α → IH → RS} : ws (r.stm env k) S F = wp r (fun v ih => ws (k v ih) S F) (kE F env) := by
  cases r <;> with_unfolding_all rfl
/-- an outcome -/
theorem wp.out (h : wp r Q E0) : ∃ v ih', r = .ok v ih' ∧ Q v ih' := by
  cases r with
  | ok v ih => rw [wp_ok] at h; exact ⟨v, ih, rfl, h⟩
  | exc c ih => rw [wp_exc] at h; exact h.elim
  | stuck => rw [wp_stuck] at h; exact h.elim
theorem wp.eq {a : α} {b : IH} (h : wp r (fun v ih' => v = a ∧ ih' = b) E0) : r = .ok a b := by
  obtain ⟨v, ih', e, rfl, rfl⟩ := h.out
  exact e
theorem wp.of {a : α} {b : IH} (h : r = .ok a b) (q : Q a b) : wp r Q E := by
  rw [h, wp_ok]
  exact q
theorem ws.out {r : RS} (h : ws r S S0) : ∃ f ih', r = .ok f ih' ∧ S f ih' := by
  cases r with
  | ok v ih => rw [ws_ok] at h; exact ⟨v, ih, rfl, h⟩
  | exc c env ih => rw [ws_exc] at h; exact h.elim
  | stuck => rw [ws_stuck] at h; exact h.elim
end

/-! ### what is left, as constants -/
section
variable {α β γ : Type}
def k_un (f : α → IH → Res β) (Q : PQ β) (E : EQ) : PQ α := fun x ih => wp (f x ih) Q E
def k_op (f : IV → IV → IH → Res IV) (mb : Env → IH → Res IV) (env : Env) (Q : PQ IV) (E : EQ) : PQ IV := fun x ih => wp (mb env ih) (k_un (f x) Q E) E
def k_cons2 (x : IV) (Q : PQ (List IV)) : PQ (List IV) := fun xs ih => Q (x :: xs) ih
def k_cons (mr : Env → IH → Res (List IV)) (env : Env) (Q : PQ (List IV)) (E : EQ) : PQ IV := fun x ih => wp (mr env ih) (k_cons2 x Q) E
def k_if (ma mb : Env → IH → Res α) (env : Env) (Q : PQ α) (E : EQ) : PQ Bool := fun b ih => if b = true then wp (ma env ih) Q E else wp (mb env ih) Q E
def k_and (mb : Env → IH → Res Bool) (env : Env) (Q : PQ Bool) (E : EQ) : PQ Bool := fun b ih => if b = true then wp (mb env ih) Q E else Q false ih
def k_or (mb : Env → IH → Res Bool) (env : Env) (Q : PQ Bool) (E : EQ) : PQ Bool := fun b ih => if b = true then Q true ih else wp (mb env ih) Q E
def k_not (Q : PQ Bool) : PQ Bool := fun b ih => Q (!b) ih
def k_tb (Q : PQ Bool) : PQ IV := fun v ih => match v with
  | .bl b => Q b ih
  | _ => False
def k_andV (mb : Env → IH → Res IV) (env : Env) (Q : PQ IV) (E : EQ) : PQ Bool := fun b ih => if b = true then wp (mb env ih) Q E else Q (.bl false) ih
def k_orV (mb : Env → IH → Res IV) (env : Env) (Q : PQ IV) (E : EQ) : PQ Bool := fun b ih => if b = true then Q (.bl true) ih else wp (mb env ih) Q E
def k_notV (Q : PQ IV) : PQ Bool := fun b ih => Q (.bl !b) ih
def k_some (Q : PQ (Option Int)) : PQ IV := fun v ih => match v with
  | .int i => Q (some i) ih
  | _ => False
def k_sl3 (x : IV) (l : Option Int) (Q : PQ IV) (E : EQ) : PQ (Option Int) := fun h ih => wp (f_sl x l h ih) Q E
def k_sl2 (x : IV) (mh : Env → IH → Res (Option Int)) (env : Env) (Q : PQ IV) (E : EQ) : PQ (Option Int) := fun l ih => wp (mh env ih) (k_sl3 x l Q E) E
def k_sl (ml mh : Env → IH → Res (Option Int)) (env : Env) (Q : PQ IV) (E : EQ) : PQ IV := fun x ih => wp (ml env ih) (k_sl2 x mh env Q E) E
def k_mL2 (f : IV → List IV → IH → Res IV) (x : IV) (Q : PQ IV) (E : EQ) : PQ (List IV) := fun xs ih => wp (f x xs ih) Q E
def k_mL (f : IV → List IV → IH → Res IV) (mr : Env → IH → Res (List IV)) (env : Env) (Q : PQ IV) (E : EQ) : PQ IV := fun x ih => isLst x ih = true ∧ wp (mr env ih) (k_mL2 f x Q E) E
def k_mL0 (f : IV → List IV → IH → Res IV) (Q : PQ IV) (E : EQ) : PQ IV := fun x ih => isLst x ih = true ∧ wp (f x [] ih) Q E
def k_ch3 (g : IV → IV → IH → Res IV) (y : IV) (mc : Env → IH → Res IV) (env : Env) (Q : PQ IV) (E : EQ) : PQ Bool := fun k ih => if k = true then wp (mc env ih) (k_un (g y) Q E) E else Q (.bl false) ih
def k_ch2 (f g : IV → IV → IH → Res IV) (x : IV) (mc : Env → IH → Res IV) (env : Env) (Q : PQ IV) (E : EQ) : PQ IV := fun y ih => wp (f x y ih) (k_tb (k_ch3 g y mc env Q E)) E
def k_ch (f g : IV → IV → IH → Res IV) (mb mc : Env → IH → Res IV) (env : Env) (Q : PQ IV) (E : EQ) : PQ IV := fun x ih => wp (mb env ih) (k_ch2 f g x mc env Q E) E
def ks_set (g : IV → Env → IH → Option Env) (env : Env) (S : SQ) : PQ IV := fun v ih => match g v env ih with
  | some env' => S (.next env') ih
  | none => False
def ks_expr (env : Env) (S : SQ) : PQ IV := fun _ ih => S (.next env) ih
def ks_ret (S : SQ) : PQ IV := fun v ih => S (.ret v) ih
def ks_if (ma mb : Env → IH → RS) (env : Env) (S : SQ) (F : ES) : PQ Bool := fun b ih => if b = true then ws (ma env ih) S F else ws (mb env ih) S F
def ks_seq (mb : Env → IH → RS) (S : SQ) (F : ES) : SQ := fun f ih => match f with
  | .next env => ws (mb env ih) S F
  | z => S z ih
def ks_aug2 (i : Nat) (env : Env) (S : SQ) : PQ IV := fun z ih => S (.next (env.set i (some z))) ih
def ks_aug (i : Nat) (f : IV → IV → IH → Res IV) (x : IV) (env : Env) (S : SQ) (F : ES) : PQ IV := fun y ih => wp (f x y ih) (ks_aug2 i env S) (kE F env)
def ks_par (i j : Nat) (env : Env) (S : SQ) : PQ (List IV) := fun vs ih => match vs with
  | [v, w] => S (.next ((env.set i (some v)).set j (some w))) ih
  | _ => False
def ks_sl4 (o i v : IV) (env : Env) (S : SQ) (ih : IH) : Prop := match f_setL o i v ih with
  | some ih4 => S (.next env) ih4
  | none => False
def ks_sl3 (v o : IV) (env : Env) (S : SQ) : PQ IV := fun i ih => ks_sl4 o i v env S ih
def ks_sl2 (v : IV) (mi : Env → IH → Res IV) (env : Env) (S : SQ) (F : ES) : PQ IV := fun o ih => wp (mi env ih) (ks_sl3 v o env S) (kE F env)
def ks_sl (mo mi : Env → IH → Res IV) (env : Env) (S : SQ) (F : ES) : PQ IV := fun v ih => wp (mo env ih) (ks_sl2 v mi env S F) (kE F env)
def kd (Q : PQ IV) : SQ := fun f ih => match f with
  | .ret v => Q v ih
  | .next _ => Q .non ih
  | _ => False
def kdE (E : EQ) : ES := fun c _ ih => E c ih
/-- of a source: the loop -/
def ks_for (g : IV → Env → IH → Option Env) (mb : Env → IH → RS) (env : Env) (S : SQ) (F : ES) : PQ Src := fun s ih => ws (forGo s g mb (s.size ih + 1) 0 env ih) S F
def k_lc (vs : List Nat) (g : IV → Env → IH → Option Env) (n : Env → IH → Res Bool) (me : Env → IH → Res IV) (env : Env) (Q : PQ IV) (E : EQ) : PQ Src := fun s ih => wp (lcGo s g n me ih.length (wipeI env vs) (s.size ih + 1) 0 (ih ++ [.lst []])) Q E
def k_r1 (Q : PQ Src) : PQ (List IV) := fun vs ih => match vs with
  | [.int j] => smallI j = true ∧ Q (.rng 0 1 j.toNat) ih
  | _ => False
def k_r2 (Q : PQ Src) : PQ (List IV) := fun vs ih => match vs with
  | [.int i, .int j] => (smallI i = true ∧ smallI j = true) ∧ Q (.rng i 1 (j - i).toNat) ih
  | _ => False
def k_il2 (n : Nat) (Q : PQ Src) (ih : IH) : Option (List IV) → Prop
  | some _ => Q (.lst n) ih
  | none => False
def k_il (Q : PQ Src) : PQ IV := fun v ih => match v with
  | .ref n => k_il2 n Q ih (lAt ih n true)
  | _ => False
def k_it2 (n : Nat) (Q : PQ Src) (ih : IH) : Option (List IV) → Prop
  | some _ => Q (.tup n) ih
  | none => False
def k_it (Q : PQ Src) : PQ IV := fun v ih => match v with
  | .ref n => k_it2 n Q ih (lAt ih n false)
  | _ => False
def k_ie2 (n : Nat) (Q : PQ Src) (ih : IH) : Option (List IV) → Prop
  | some _ => Q (.enm n) ih
  | none => False
def k_ie (Q : PQ Src) : PQ (List IV) := fun v ih => match v with
  | [.ref n] => k_ie2 n Q ih (lAt ih n true)
  | _ => False
def k_iz2 (n k : Nat) (Q : PQ Src) (ih : IH) : Option (List IV) → Option (List IV) → Prop
  | some _, some _ => Q (.zip n k) ih
  | _, _ => False
def k_iz (Q : PQ Src) : PQ (List IV) := fun v ih => match v with
  | [.ref n, .ref k] => k_iz2 n k Q ih (lAt ih n true) (lAt ih k true)
  | _ => False
/-- reading at a place -/
def k_ix2 (Q : PQ IV) (ih : IH) : Option IV → Prop
  | some v => Q v ih
  | none => False
def k_ix (i : Int) (Q : PQ IV) (ih : IH) : Option MO → Prop
  | some o => k_ix2 Q ih (atI o.xs i)
  | none => False
def k_len (Q : PQ IV) (ih : IH) : Option MO → Prop
  | some .dct => False
  | some (.dk _) => False
  | some .clo => False
  | some (.fn _ _) => False
  | some o => Q (.int o.xs.length) ih
  | none => False
def k_app1 (n : Nat) (y : IV) (Q : PQ IV) (ih : IH) : Option MO → Prop
  | some (.lst xs) => xs.length < 100000 ∧ Q .non (ih.set n (.lst (xs ++ [y])))
  | _ => False
def k_setL (n : Nat) (i : Int) (v : IV) (env : Env) (S : SQ) (ih : IH) : Option MO → Prop
  | some (.lst xs) => match ixN xs.length i with
    | some j => S (.next env) (ih.set n (.lst (xs.set j v)))
    | none => False
  | _ => False
end

/-! ### the steps -/
section
variable {α β : Type} {ma mb mc mr2 : Env → IH → Res IV} {mt nb : Env → IH → Res Bool} {mr : Env → IH → Res (List IV)} {ml mh : Env → IH → Res (Option Int)} {sa sb : Env → IH → RS} {env env' : Env} {ih ih' : IH} {Q : PQ IV} {QB : PQ Bool} {QL : PQ (List IV)} {QO : PQ (Option Int)} {QS : PQ Src} {E : EQ} {S : SQ} {F : ES} {f g : IV → IV → IH → Res IV} {x y v w : IV} {xs : List IV} {i j : Int} {n m : Nat} {b : Bool} {p q : Prop} {o : MO} {c : Addr}
theorem wp_op : wp (m_op f ma mb env ih) Q E = wp (ma env ih) (k_op f mb env Q E) E := by
  unfold m_op
  rw [wp_bind]
  simp only [wp_bind]
  with_unfolding_all rfl
theorem kk_op : k_op f mb env Q E x ih = wp (mb env ih) (k_un (f x) Q E) E := by with_unfolding_all rfl
theorem kk_un {f : α → IH → Res β} {Q : PQ β} {x : α} : k_un f Q E x ih = wp (f x ih) Q E := by with_unfolding_all rfl
theorem wp_un {f : IV → IH → Res IV} : wp (m_un f ma env ih) Q E = wp (ma env ih) (k_un f Q E) E := by
  unfold m_un
  rw [wp_bind]
  with_unfolding_all rfl
theorem wp_cons : wp (m_cons ma mr env ih) QL E = wp (ma env ih) (k_cons mr env QL E) E := by
  unfold m_cons
  rw [wp_bind]
  simp only [wp_bind]
  with_unfolding_all rfl
theorem kk_cons : k_cons mr env QL E x ih = wp (mr env ih) (k_cons2 x QL) E := by with_unfolding_all rfl
theorem kk_cons2 : k_cons2 x QL xs ih = QL (x :: xs) ih := by with_unfolding_all rfl
theorem wp_nil : wp (m_nil env ih) QL E = QL [] ih := by with_unfolding_all rfl
theorem wp_c : wp (m_c v env ih) Q E = Q v ih := by with_unfolding_all rfl
theorem wp_app {f : List IV → IH → Res IV} : wp (m_app f mr env ih) Q E = wp (mr env ih) (k_un f Q E) E := by
  unfold m_app
  rw [wp_bind]
  with_unfolding_all rfl
theorem wp_if : wp (m_if mt ma mb env ih) Q E = wp (mt env ih) (k_if ma mb env Q E) E := by
  unfold m_if
  rw [wp_bind]
  congr 1
  funext b ih
  cases b <;> with_unfolding_all rfl
theorem kk_if1 {ma mb : Env → IH → Res α} {Q : PQ α} : k_if ma mb env Q E true ih = wp (ma env ih) Q E := by with_unfolding_all rfl
theorem kk_if0 {ma mb : Env → IH → Res α} {Q : PQ α} : k_if ma mb env Q E false ih = wp (mb env ih) Q E := by with_unfolding_all rfl
theorem wp_and : wp (m_and mt nb env ih) QB E = wp (mt env ih) (k_and nb env QB E) E := by
  unfold m_and
  rw [wp_bind]
  congr 1
  funext b ih
  cases b <;> with_unfolding_all rfl
theorem kk_and1 : k_and nb env QB E true ih = wp (nb env ih) QB E := by with_unfolding_all rfl
theorem kk_and0 : k_and nb env QB E false ih = QB false ih := by with_unfolding_all rfl
theorem wp_or : wp (m_or mt nb env ih) QB E = wp (mt env ih) (k_or nb env QB E) E := by
  unfold m_or
  rw [wp_bind]
  congr 1
  funext b ih
  cases b <;> with_unfolding_all rfl
theorem kk_or1 : k_or nb env QB E true ih = QB true ih := by with_unfolding_all rfl
theorem kk_or0 : k_or nb env QB E false ih = wp (nb env ih) QB E := by with_unfolding_all rfl
theorem wp_not : wp (m_not mt env ih) QB E = wp (mt env ih) (k_not QB) E := by
  unfold m_not
  rw [wp_bind]
  with_unfolding_all rfl
theorem kk_not : k_not QB b ih = QB (!b) ih := by with_unfolding_all rfl
theorem wp_tb : wp (m_tb ma env ih) QB E = wp (ma env ih) (k_tb QB) E := by
  unfold m_tb
  rw [wp_bind]
  congr 1
  funext v ih
  cases v <;> with_unfolding_all rfl
theorem kk_tb : k_tb QB (.bl b) ih = QB b ih := by with_unfolding_all rfl
theorem wp_andV : wp (m_andV ma mb env ih) Q E = wp (ma env ih) (k_tb (k_andV mb env Q E)) E := by
  unfold m_andV
  rw [wp_bind]
  congr 1
  funext v ih
  cases v with
  | bl b => cases b <;> with_unfolding_all rfl
  | _ => with_unfolding_all rfl
theorem kk_andV1 : k_andV mb env Q E true ih = wp (mb env ih) Q E := by with_unfolding_all rfl
theorem kk_andV0 : k_andV mb env Q E false ih = Q (.bl false) ih := by with_unfolding_all rfl
theorem wp_orV : wp (m_orV ma mb env ih) Q E = wp (ma env ih) (k_tb (k_orV mb env Q E)) E := by
  unfold m_orV
  rw [wp_bind]
  congr 1
  funext v ih
  cases v with
  | bl b => cases b <;> with_unfolding_all rfl
  | _ => with_unfolding_all rfl
theorem kk_orV1 : k_orV mb env Q E true ih = Q (.bl true) ih := by with_unfolding_all rfl
theorem kk_orV0 : k_orV mb env Q E false ih = wp (mb env ih) Q E := by with_unfolding_all rfl
theorem wp_notV : wp (m_notV ma env ih) Q E = wp (ma env ih) (k_tb (k_notV Q)) E := by
  unfold m_notV
  rw [wp_bind]
  congr 1
  funext v ih
  cases v <;> with_unfolding_all rfl
theorem kk_notV : k_notV Q b ih = Q (.bl !b) ih := by with_unfolding_all rfl
theorem wp_noneS : wp (m_none env ih) QO E = QO none ih := by with_unfolding_all rfl
theorem wp_some : wp (m_some ma env ih) QO E = wp (ma env ih) (k_some QO) E := by
  unfold m_some
  rw [wp_bind]
  congr 1
  funext v ih
  cases v <;> with_unfolding_all rfl
theorem kk_some : k_some QO (.int i) ih = QO (some i) ih := by with_unfolding_all rfl
theorem wp_sl : wp (m_sl ma ml mh env ih) Q E = wp (ma env ih) (k_sl ml mh env Q E) E := by
  unfold m_sl
  rw [wp_bind]
  simp only [wp_bind]
  with_unfolding_all rfl
theorem kk_sl : k_sl ml mh env Q E x ih = wp (ml env ih) (k_sl2 x mh env Q E) E := by with_unfolding_all rfl
theorem kk_sl2 {l : Option Int} : k_sl2 x mh env Q E l ih = wp (mh env ih) (k_sl3 x l Q E) E := by with_unfolding_all rfl
theorem kk_sl3 {l h : Option Int} : k_sl3 x l Q E h ih = wp (f_sl x l h ih) Q E := by with_unfolding_all rfl
theorem wp_mL {f : IV → List IV → IH → Res IV} : wp (m_mL f ma mr env ih) Q E = wp (ma env ih) (k_mL f mr env Q E) E := by
  unfold m_mL
  rw [wp_bind]
  congr 1
  funext v ih
  unfold k_mL
  by_cases h : isLst v ih = true
  · rw [if_pos h, wp_bind, eq_true h, true_and]
    with_unfolding_all rfl
  · rw [if_neg h, eq_false h, false_and]
    with_unfolding_all rfl
theorem kk_mL {f : IV → List IV → IH → Res IV} : k_mL f mr env Q E x ih = (isLst x ih = true ∧ wp (mr env ih) (k_mL2 f x Q E) E) := by with_unfolding_all rfl
theorem kk_mL2 {f : IV → List IV → IH → Res IV} : k_mL2 f x Q E xs ih = wp (f x xs ih) Q E := by with_unfolding_all rfl
theorem wp_mL0 {f : IV → List IV → IH → Res IV} : wp (m_mL0 f ma env ih) Q E = wp (ma env ih) (k_mL0 f Q E) E := by
  unfold m_mL0
  rw [wp_bind]
  congr 1
  funext v ih
  unfold k_mL0
  by_cases h : isLst v ih = true
  · rw [if_pos h, eq_true h, true_and]
  · rw [if_neg h, eq_false h, false_and]
    with_unfolding_all rfl
theorem kk_mL0 {f : IV → List IV → IH → Res IV} : k_mL0 f Q E x ih = (isLst x ih = true ∧ wp (f x [] ih) Q E) := by with_unfolding_all rfl
theorem wp_chain : wp (m_chain f g ma mb mc env ih) Q E = wp (ma env ih) (k_ch f g mb mc env Q E) E := by
  unfold m_chain
  rw [wp_bind]
  congr 1
  funext x ih
  rw [wp_bind]
  unfold k_ch
  congr 1
  funext y ih
  rw [wp_bind]
  unfold k_ch2
  congr 1
  funext z ih
  cases z with
  | bl k =>
    cases k with
    | true =>
      show wp (if true = true then (mc env ih).bind _ else _) Q E = _
      rw [if_pos rfl, wp_bind]
      with_unfolding_all rfl
    | false => with_unfolding_all rfl
  | _ => with_unfolding_all rfl
theorem kk_ch : k_ch f g mb mc env Q E x ih = wp (mb env ih) (k_ch2 f g x mc env Q E) E := by with_unfolding_all rfl
theorem kk_ch2 : k_ch2 f g x mc env Q E y ih = wp (f x y ih) (k_tb (k_ch3 g y mc env Q E)) E := by with_unfolding_all rfl
theorem kk_ch31 : k_ch3 g y mc env Q E true ih = wp (mc env ih) (k_un (g y) Q E) E := by with_unfolding_all rfl
theorem kk_ch30 : k_ch3 g y mc env Q E false ih = Q (.bl false) ih := by with_unfolding_all rfl
-- statements
theorem ws_set {g : IV → Env → IH → Option Env} : ws (ms_set g ma env ih) S F = wp (ma env ih) (ks_set g env S) (kE F env) := by
  unfold ms_set
  rw [ws_stm]
  congr 1
  funext v ih
  unfold ks_set
  cases g v env ih <;> with_unfolding_all rfl
theorem kks_nm : ks_set (g_nm n) env S v ih = S (.next (env.set n (some v))) ih := by with_unfolding_all rfl
def ks_g (S : SQ) (ih : IH) : Option Env → Prop
  | some env => S (.next env) ih
  | none => False
theorem kks_g {S : SQ} {env : Env} : ks_g S ih (some env) = S (.next env) ih := by with_unfolding_all rfl
theorem kks_tup {f : List IV → Env → IH → Option Env} : ks_set (g_tup n f) env S v ih = ks_g S ih (g_tup n f v env ih) := by
  unfold ks_set
  cases g_tup n f v env ih <;> with_unfolding_all rfl
theorem kks_lst {f : List IV → Env → IH → Option Env} : ks_set (g_lst n f) env S v ih = ks_g S ih (g_lst n f v env ih) := by
  unfold ks_set
  cases g_lst n f v env ih <;> with_unfolding_all rfl
theorem ws_expr : ws (ms_expr ma env ih) S F = wp (ma env ih) (ks_expr env S) (kE F env) := by
  unfold ms_expr
  rw [ws_stm]
  with_unfolding_all rfl
theorem kks_expr : ks_expr env S v ih = S (.next env) ih := by with_unfolding_all rfl
theorem ws_ret : ws (ms_ret ma env ih) S F = wp (ma env ih) (ks_ret S) (kE F env) := by
  unfold ms_ret
  rw [ws_stm]
  with_unfolding_all rfl
theorem kks_ret : ks_ret S v ih = S (.ret v) ih := by with_unfolding_all rfl
theorem ws_retN : ws (ms_retN env ih) S F = S (.ret .non) ih := by with_unfolding_all rfl
theorem ws_pass : ws (ms_pass env ih) S F = S (.next env) ih := by with_unfolding_all rfl
theorem ws_brk : ws (ms_brk env ih) S F = S (.brk env) ih := by with_unfolding_all rfl
theorem ws_cont : ws (ms_cont env ih) S F = S (.cont env) ih := by with_unfolding_all rfl
theorem ws_raise : ws (ms_raise c env ih) S F = F c env ih := by with_unfolding_all rfl
theorem ws_if : ws (ms_if mt sa sb env ih) S F = wp (mt env ih) (ks_if sa sb env S F) (kE F env) := by
  unfold ms_if
  rw [ws_stm]
  congr 1
  funext b ih
  cases b <;> with_unfolding_all rfl
theorem kks_if1 : ks_if sa sb env S F true ih = ws (sa env ih) S F := by with_unfolding_all rfl
theorem kks_if0 : ks_if sa sb env S F false ih = ws (sb env ih) S F := by with_unfolding_all rfl
theorem ws_seq : ws (ms_seq sa sb env ih) S F = ws (sa env ih) (ks_seq sb S F) F := by
  unfold ms_seq
  cases sa env ih with
  | ok f ih =>
    cases f <;> with_unfolding_all rfl
  | exc c env ih => with_unfolding_all rfl
  | stuck => with_unfolding_all rfl
theorem kks_next : ks_seq sb S F (.next env) ih = ws (sb env ih) S F := by with_unfolding_all rfl
theorem kks_retS : ks_seq sb S F (.ret v) ih = S (.ret v) ih := by with_unfolding_all rfl
theorem kks_brk : ks_seq sb S F (.brk env) ih = S (.brk env) ih := by with_unfolding_all rfl
theorem kks_cont : ks_seq sb S F (.cont env) ih = S (.cont env) ih := by with_unfolding_all rfl
def k_augE (i : Nat) (f : IV → IV → IH → Res IV) (m : Env → IH → Res IV) (env : Env) (ih : IH) (S : SQ) (F : ES) : Option (Option IV) → Prop
  | some (some x) => wp (m env ih) (ks_aug i f x env S F) (kE F env)
  | _ => False
theorem kk_augE : k_augE n f ma env ih S F (some (some x)) = wp (ma env ih) (ks_aug n f x env S F) (kE F env) := by with_unfolding_all rfl
theorem ws_aug : ws (ms_aug n f ma env ih) S F = k_augE n f ma env ih S F env[n]? := by
  unfold ms_aug
  cases e : env[n]? with
  | none => with_unfolding_all rfl
  | some a =>
    cases a with
    | none => with_unfolding_all rfl
    | some x =>
      show ws ((ma env ih).stm env _) S F = _
      rw [ws_stm]
      simp only [ws_stm]
      with_unfolding_all rfl
theorem kks_aug : ks_aug n f x env S F y ih = wp (f x y ih) (ks_aug2 n env S) (kE F env) := by with_unfolding_all rfl
theorem kks_aug2 : ks_aug2 n env S v ih = S (.next (env.set n (some v))) ih := by with_unfolding_all rfl
theorem ws_par : ws (ms_par n m mr env ih) S F = wp (mr env ih) (ks_par n m env S) (kE F env) := by
  unfold ms_par
  rw [ws_stm]
  congr 1
  funext vs ih
  rcases vs with _ | ⟨a, _ | ⟨z, _ | ⟨y, r⟩⟩⟩ <;> with_unfolding_all rfl
theorem kks_par : ks_par n m env S [v, w] ih = S (.next ((env.set n (some v)).set m (some w))) ih := by with_unfolding_all rfl
theorem ws_setL {m mo mi : Env → IH → Res IV} : ws (ms_setL m mo mi env ih) S F = wp (m env ih) (ks_sl mo mi env S F) (kE F env) := by
  unfold ms_setL
  rw [ws_stm]
  congr 1
  funext v ih
  rw [ws_stm]
  unfold ks_sl
  congr 1
  funext o ih
  rw [ws_stm]
  unfold ks_sl2
  congr 1
  funext i ih
  unfold ks_sl3 ks_sl4
  cases f_setL o i v ih <;> with_unfolding_all rfl
theorem kks_sl {mo mi : Env → IH → Res IV} : ks_sl mo mi env S F v ih = wp (mo env ih) (ks_sl2 v mi env S F) (kE F env) := by with_unfolding_all rfl
theorem kks_sl2 {mi : Env → IH → Res IV} : ks_sl2 v mi env S F w ih = wp (mi env ih) (ks_sl3 v w env S) (kE F env) := by with_unfolding_all rfl
theorem kks_sl3 : ks_sl3 v (.ref n) env S (.int i) ih = k_setL n i v env S ih ih[n]? := by
  unfold ks_sl3 ks_sl4 f_setL k_setL
  dsimp only
  cases ih[n]? with
  | none => with_unfolding_all rfl
  | some o =>
    cases o with
    | lst xs =>
      dsimp only
      cases ixN xs.length i <;> with_unfolding_all rfl
    | _ => with_unfolding_all rfl
theorem kk_setL : k_setL n i v env S ih (some (.lst xs)) = k_setL n i v env S ih (some (.lst xs)) := by with_unfolding_all rfl
theorem wp_def {sm : Env → IH → RS} : wp (defRun n sm xs ih) Q E = ws (sm (startI n xs) ih) (kd Q) (kdE E) := by
  unfold defRun
  cases sm (startI n xs) ih with
  | ok f ih =>
    cases f <;> with_unfolding_all rfl
  | exc c env ih => with_unfolding_all rfl
  | stuck => with_unfolding_all rfl
theorem kkd_ret : kd Q (.ret v) ih = Q v ih := by with_unfolding_all rfl
theorem kkd_next : kd Q (.next env) ih = Q .non ih := by with_unfolding_all rfl
theorem kkdE : kdE E c env ih = E c ih := by with_unfolding_all rfl
theorem kkE : kE F env c ih = F c env ih := by with_unfolding_all rfl
-- loops
theorem ws_for {mi : Env → IH → Res Src} {g : IV → Env → IH → Option Env} : ws (ms_for mi g sa env ih) S F = wp (mi env ih) (ks_for g sa env S F) (kE F env) := by
  unfold ms_for
  rw [ws_stm]
  with_unfolding_all rfl
theorem wp_lc {vs : List Nat} {mi : Env → IH → Res Src} {g : IV → Env → IH → Option Env} : wp (m_lc vs mi g mt ma env ih) Q E = wp (mi env ih) (k_lc vs g mt ma env Q E) E := by
  unfold m_lc
  rw [wp_bind]
  with_unfolding_all rfl
theorem wp_r1 : wp (mi_rng1 mr env ih) QS E = wp (mr env ih) (k_r1 QS) E := by
  unfold mi_rng1
  rw [wp_bind]
  congr 1
  funext vs ih
  rcases vs with _ | ⟨a, _ | ⟨z, r⟩⟩
  · with_unfolding_all rfl
  · cases a with
    | int j =>
      show wp (if smallI j = true then _ else _) QS E = (smallI j = true ∧ _)
      by_cases h : smallI j = true
      · rw [if_pos h, eq_true h, true_and]
        with_unfolding_all rfl
      · rw [if_neg h, eq_false h, false_and]
        with_unfolding_all rfl
    | _ => with_unfolding_all rfl
  · cases a <;> with_unfolding_all rfl
theorem kk_r1 : k_r1 QS [.int j] ih = (smallI j = true ∧ QS (.rng 0 1 j.toNat) ih) := by with_unfolding_all rfl
theorem wp_r2 : wp (mi_rng2 mr env ih) QS E = wp (mr env ih) (k_r2 QS) E := by
  unfold mi_rng2
  rw [wp_bind]
  congr 1
  funext vs ih
  rcases vs with _ | ⟨a, _ | ⟨z, _ | ⟨y, r⟩⟩⟩
  · with_unfolding_all rfl
  · cases a <;> with_unfolding_all rfl
  · cases a with
    | int i =>
      cases z with
      | int j =>
        show wp (if smallI i = true ∧ smallI j = true then _ else _) QS E = ((smallI i = true ∧ smallI j = true) ∧ _)
        by_cases h : smallI i = true ∧ smallI j = true
        · rw [if_pos h, eq_true h, true_and]
          with_unfolding_all rfl
        · rw [if_neg h, eq_false h, false_and]
          with_unfolding_all rfl
      | _ => with_unfolding_all rfl
    | _ => with_unfolding_all rfl
  · cases a <;> cases z <;> with_unfolding_all rfl
theorem kk_r2 : k_r2 QS [.int i, .int j] ih = ((smallI i = true ∧ smallI j = true) ∧ QS (.rng i 1 (j - i).toNat) ih) := by with_unfolding_all rfl
def k_r3 (Q : PQ Src) : PQ (List IV) := fun vs ih => match vs with
  | [.int i, .int j, .int k] => (k = -1 ∧ smallI i = true ∧ smallI j = true) ∧ Q (.rng i (-1) (i - j).toNat) ih
  | _ => False
theorem wp_r3 : wp (mi_rng3 mr env ih) QS E = wp (mr env ih) (k_r3 QS) E := by
  unfold mi_rng3
  rw [wp_bind]
  congr 1
  funext vs ih
  rcases vs with _ | ⟨a, _ | ⟨z, _ | ⟨y, _ | ⟨x, r⟩⟩⟩⟩
  · with_unfolding_all rfl
  · cases a <;> with_unfolding_all rfl
  · cases a <;> cases z <;> with_unfolding_all rfl
  · cases a with
    | int i =>
      cases z with
      | int j =>
        cases y with
        | int k =>
          show wp (if k = -1 ∧ smallI i = true ∧ smallI j = true then _ else _) QS E = ((k = -1 ∧ smallI i = true ∧ smallI j = true) ∧ _)
          by_cases h : k = -1 ∧ smallI i = true ∧ smallI j = true
          · rw [if_pos h, eq_true h, true_and]
            with_unfolding_all rfl
          · rw [if_neg h, eq_false h, false_and]
            with_unfolding_all rfl
        | _ => with_unfolding_all rfl
      | _ => with_unfolding_all rfl
    | _ => with_unfolding_all rfl
  · cases a <;> cases z <;> cases y <;> with_unfolding_all rfl
theorem kk_r3 {k : Int} : k_r3 QS [.int i, .int j, .int k] ih = ((k = -1 ∧ smallI i = true ∧ smallI j = true) ∧ ∀ n, n = (i - j).toNat → QS (.rng i (-1) n) ih) := by
  rw [forall_eq]
  with_unfolding_all rfl
theorem wp_il : wp (mi_lst ma env ih) QS E = wp (ma env ih) (k_il QS) E := by
  unfold mi_lst
  rw [wp_bind]
  congr 1
  funext v ih
  cases v with
  | ref n =>
    show wp (match lAt ih n true with
      | some _ => _
      | none => _) QS E = k_il2 n QS ih (lAt ih n true)
    cases lAt ih n true <;> with_unfolding_all rfl
  | _ => with_unfolding_all rfl
theorem wp_it : wp (mi_tup ma env ih) QS E = wp (ma env ih) (k_it QS) E := by
  unfold mi_tup
  rw [wp_bind]
  congr 1
  funext v ih
  cases v with
  | ref n =>
    show wp (match lAt ih n false with
      | some _ => _
      | none => _) QS E = k_it2 n QS ih (lAt ih n false)
    cases lAt ih n false <;> with_unfolding_all rfl
  | _ => with_unfolding_all rfl
theorem wp_ie : wp (mi_enm mr env ih) QS E = wp (mr env ih) (k_ie QS) E := by
  unfold mi_enm
  rw [wp_bind]
  congr 1
  funext v ih
  rcases v with _ | ⟨a, _ | ⟨z, r⟩⟩
  · with_unfolding_all rfl
  · cases a with
    | ref n =>
      show wp (match lAt ih n true with
        | some _ => _
        | none => _) QS E = k_ie2 n QS ih (lAt ih n true)
      cases lAt ih n true <;> with_unfolding_all rfl
    | _ => with_unfolding_all rfl
  · cases a <;> with_unfolding_all rfl
theorem wp_iz : wp (mi_zip mr env ih) QS E = wp (mr env ih) (k_iz QS) E := by
  unfold mi_zip
  rw [wp_bind]
  congr 1
  funext v ih
  rcases v with _ | ⟨a, _ | ⟨z, _ | ⟨y, r⟩⟩⟩
  · with_unfolding_all rfl
  · cases a <;> with_unfolding_all rfl
  · cases a with
    | ref n =>
      cases z with
      | ref k =>
        show wp (match lAt ih n true, lAt ih k true with
          | some _, some _ => _
          | _, _ => _) QS E = k_iz2 n k QS ih (lAt ih n true) (lAt ih k true)
        cases lAt ih n true <;> cases lAt ih k true <;> with_unfolding_all rfl
      | _ => with_unfolding_all rfl
    | _ => with_unfolding_all rfl
  · cases a <;> cases z <;> with_unfolding_all rfl
theorem kk_il : k_il QS (.ref n) ih = k_il2 n QS ih (lAt ih n true) := by with_unfolding_all rfl
theorem kk_il2 : k_il2 n QS ih (some xs) = QS (.lst n) ih := by with_unfolding_all rfl
theorem kk_it : k_it QS (.ref n) ih = k_it2 n QS ih (lAt ih n false) := by with_unfolding_all rfl
theorem kk_it2 : k_it2 n QS ih (some xs) = QS (.tup n) ih := by with_unfolding_all rfl
theorem kk_ie : k_ie QS [.ref n] ih = k_ie2 n QS ih (lAt ih n true) := by with_unfolding_all rfl
theorem kk_ie2 : k_ie2 n QS ih (some xs) = QS (.enm n) ih := by with_unfolding_all rfl
theorem kk_iz : k_iz QS [.ref n, .ref m] ih = k_iz2 n m QS ih (lAt ih n true) (lAt ih m true) := by with_unfolding_all rfl
theorem kk_iz2 {ys : List IV} : k_iz2 n m QS ih (some xs) (some ys) = QS (.zip n m) ih := by with_unfolding_all rfl
def k_lAt (l : Bool) : Option MO → Option (List IV)
  | some o => if o.isK l = true then some o.xs else none
  | none => none
theorem lAt_k {l : Bool} : lAt ih n l = k_lAt l ih[n]? := by
  unfold lAt k_lAt
  cases ih[n]? <;> with_unfolding_all rfl
theorem k_lAtL : k_lAt true (some (.lst xs)) = some xs := by with_unfolding_all rfl
theorem k_lAtO : k_lAt true (some (.ro xs)) = some xs := by with_unfolding_all rfl
theorem k_lAtT : k_lAt false (some (.tup xs)) = some xs := by with_unfolding_all rfl
-- operations
theorem wp_int : wp (f_int [.int i] ih) Q E = Q (.int i) ih := by with_unfolding_all rfl
theorem wp_add : wp (f_add (.int i) (.int j) ih) Q E = Q (.int (i + j)) ih := by with_unfolding_all rfl
theorem wp_addI : wp (f_addI (.int i) (.int j) ih) Q E = Q (.int (i + j)) ih := by with_unfolding_all rfl
theorem wp_sub : wp (f_sub (.int i) (.int j) ih) Q E = Q (.int (i - j)) ih := by with_unfolding_all rfl
theorem wp_neg : wp (f_neg (.int i) ih) Q E = Q (.int (-i)) ih := by with_unfolding_all rfl
theorem wp_lt : wp (f_lt (.int i) (.int j) ih) Q E = Q (.bl (decide (i < j))) ih := by with_unfolding_all rfl
theorem wp_le : wp (f_le (.int i) (.int j) ih) Q E = Q (.bl (decide (i ≤ j))) ih := by with_unfolding_all rfl
theorem wp_gt : wp (f_gt (.int i) (.int j) ih) Q E = Q (.bl (decide (j < i))) ih := by with_unfolding_all rfl
theorem wp_ge : wp (f_ge (.int i) (.int j) ih) Q E = Q (.bl (decide (j ≤ i))) ih := by with_unfolding_all rfl
theorem wp_max2 : wp (f_max2 [.int i, .int j] ih) Q E = Q (.int (if j > i then j else i)) ih := by with_unfolding_all rfl
theorem wp_min2 : wp (f_min2 [.int i, .int j] ih) Q E = Q (.int (if j < i then j else i)) ih := by with_unfolding_all rfl
theorem wp_abs : wp (f_abs [.int i] ih) Q E = Q (.int (if i < 0 then -i else i)) ih := by with_unfolding_all rfl
theorem wp_I {C : Int → Int → Bool} {g : Int → Int → IV} : wp (f_I C g (.int i) (.int j) ih) Q E = (C i j = true ∧ Q (g i j) ih) := by
  unfold f_I
  dsimp only
  by_cases h : C i j = true
  · rw [if_pos h, eq_true h, true_and]
    with_unfolding_all rfl
  · rw [if_neg h, eq_false h, false_and]
    with_unfolding_all rfl
theorem wp_mulI : wp (f_mul (.int i) (.int j) ih) Q E = (cMul i j = true ∧ Q (.int (i * j)) ih) := wp_I
theorem wp_mul : wp (f_mulA (.int i) (.int j) ih) Q E = (cMul i j = true ∧ Q (.int (i * j)) ih) := by
  show wp (if cMul i j = true then _ else _) Q E = _
  by_cases h : cMul i j = true
  · rw [if_pos h, eq_true h, true_and]
    with_unfolding_all rfl
  · rw [if_neg h, eq_false h, false_and]
    with_unfolding_all rfl
theorem wp_fdiv : wp (f_fdiv (.int i) (.int j) ih) Q E = (cDiv i j = true ∧ Q (.int (i / j)) ih) := wp_I
theorem wp_mod : wp (f_mod (.int i) (.int j) ih) Q E = (0 < j ∧ Q (.int (i % j)) ih) := by
  refine wp_I.trans ?_
  unfold cMod
  rw [decide_eq_true_eq]
theorem wp_shl : wp (f_shl (.int i) (.int j) ih) Q E = (cShl i j = true ∧ Q (.int (i * 2 ^ j.toNat)) ih) := wp_I
theorem wp_shr : wp (f_shr (.int i) (.int j) ih) Q E = (0 ≤ j ∧ Q (.int (i / 2 ^ j.toNat)) ih) := by
  refine wp_I.trans ?_
  unfold cShr
  rw [decide_eq_true_eq]
theorem wp_pow : wp (f_pow (.int i) (.int j) ih) Q E = (cPow i j = true ∧ Q (.int (i ^ j.toNat)) ih) := wp_I
theorem wp_isN : wp (f_isN x .non ih) Q E = Q (.bl (decide (x = .non))) ih := by with_unfolding_all rfl
theorem wp_notN : wp (f_notN x .non ih) Q E = Q (.bl (!decide (x = .non))) ih := by with_unfolding_all rfl
theorem wp_eqI : wp (f_eq (.int i) (.int j) ih) Q E = Q (.bl (decide (i = j))) ih := by
  rw [a_eq_int]
  with_unfolding_all rfl
theorem wp_neI : wp (f_ne (.int i) (.int j) ih) Q E = Q (.bl (!decide (i = j))) ih := by
  rw [a_ne_int]
  with_unfolding_all rfl
theorem wp_ix : wp (f_ix (.ref n) (.int i) ih) Q E = k_ix i Q ih ih[n]? := by
  unfold f_ix
  dsimp only
  cases ih[n]? with
  | none => with_unfolding_all rfl
  | some o =>
    show wp (match atI o.xs i with
      | some v => _
      | none => _) Q E = k_ix2 Q ih (atI o.xs i)
    cases atI o.xs i <;> with_unfolding_all rfl
theorem kk_ix : k_ix i Q ih (some o) = k_ix2 Q ih (atI o.xs i) := by with_unfolding_all rfl
theorem kk_ix2 : k_ix2 Q ih (some v) = Q v ih := by with_unfolding_all rfl
theorem wp_len : wp (f_len [.ref n] ih) Q E = k_len Q ih ih[n]? := by
  unfold f_len
  dsimp only
  cases ih[n]? with
  | none => with_unfolding_all rfl
  | some o => cases o <;> with_unfolding_all rfl
theorem kk_lenL : k_len Q ih (some (.lst xs)) = Q (.int xs.length) ih := by with_unfolding_all rfl
theorem kk_lenT : k_len Q ih (some (.tup xs)) = Q (.int xs.length) ih := by with_unfolding_all rfl
theorem kk_lenO : k_len Q ih (some (.ro xs)) = Q (.int xs.length) ih := by with_unfolding_all rfl
theorem kk_lenP : k_len Q ih (some (.rot xs)) = Q (.int xs.length) ih := by with_unfolding_all rfl
theorem wp_appd : wp (f_append (.ref n) [y] ih) Q E = k_app1 n y Q ih ih[n]? := by
  unfold f_append
  dsimp only
  cases ih[n]? with
  | none => with_unfolding_all rfl
  | some o =>
    cases o with
    | lst xs =>
      show wp (if xs.length < 100000 then _ else _) Q E = (xs.length < 100000 ∧ _)
      by_cases h : xs.length < 100000
      · rw [if_pos h, eq_true h, true_and]
        with_unfolding_all rfl
      · rw [if_neg h, eq_false h, false_and]
        with_unfolding_all rfl
    | _ => with_unfolding_all rfl
theorem kk_app1 : k_app1 n y Q ih (some (.lst xs)) = (xs.length < 100000 ∧ Q .non (ih.set n (.lst (xs ++ [y])))) := by with_unfolding_all rfl
def k_isL : Option MO → Bool
  | some o => o.isL
  | none => false
theorem isL_k : isLst (.ref n) ih = k_isL ih[n]? := by
  show (match ih[n]? with
    | some o => o.isL
    | none => false) = k_isL ih[n]?
  cases ih[n]? <;> with_unfolding_all rfl
theorem kk_isL : k_isL (some o) = o.isL := by with_unfolding_all rfl
-- by hand: new objects
theorem wp_lst (hl : xs.length ≤ 100000) (k : Q (.ref ih.length) (ih ++ [.lst xs])) : wp (f_lst xs ih) Q E := by
  rw [a_lst hl, wp_ok]
  exact k
theorem wp_tup (hl : xs.length ≤ 100000) (k : Q (.ref ih.length) (ih ++ [.tup xs])) : wp (f_tup xs ih) Q E := by
  rw [a_tup hl, wp_ok]
  exact k
theorem wp_list (h : ih[n]? = some o) (k : Q (.ref ih.length) (ih ++ [.lst o.xs])) (hd : o.isS = true := by rfl) : wp (f_list [.ref n] ih) Q E := by
  rw [a_list h hd, wp_ok]
  exact k
/-- a choice out of a list -/
theorem wp_pick (h : ih[n]? = some o) (h0 : 0 ≤ i) (h1 : i < (o.xs.length : Int)) (k : ∀ v ∈ o.xs, Q v ih) : wp (f_ix (.ref n) (.int i) ih) Q E := by
  obtain ⟨m, rfl⟩ := Int.eq_ofNat_of_zero_le h0
  have hm : m < o.xs.length := by omega
  rw [a_ix h (v := o.xs[m]) (by rw [atI_nn]; exact List.getElem?_eq_getElem hm), wp_ok]
  exact k _ (List.getElem_mem hm)
theorem wp_eq {d e : PyData} (h1 : Is ih x d) (h2 : Is ih y e) (s1 : SeqAt.shaped d = true) (s2 : SeqAt.shaped e = true) (k : Q (.bl (PyData.eqv d e)) ih) : wp (f_eq x y ih) Q E := by
  rw [f_eq_of h1 h2 s1 s2, wp_ok]
  exact k
theorem wp_ne {d e : PyData} (h1 : Is ih x d) (h2 : Is ih y e) (s1 : SeqAt.shaped d = true) (s2 : SeqAt.shaped e = true) (k : Q (.bl (!PyData.eqv d e)) ih) : wp (f_ne x y ih) Q E := by
  rw [f_ne_of h1 h2 s1 s2, wp_ok]
  exact k
theorem wp_isi {T t : String} (h : tyN x ih = some t) (k : kitB t T = some b) (q : Q (.bl b) ih) : wp (f_isi [x, .ty T] ih) Q E := by
  unfold f_isi
  dsimp only
  rw [h]
  dsimp only
  rw [k]
  dsimp only
  rw [wp_ok]
  exact q
-- both ways
theorem dec_if [Decidable p] {ma mb : Env → IH → Res α} {Q : PQ α} (h1 : p → k_if ma mb env Q E true ih) (h0 : ¬ p → k_if ma mb env Q E false ih) : k_if ma mb env Q E (decide p) ih := by
  by_cases h : p
  · rw [decide_eq_true h]; exact h1 h
  · rw [decide_eq_false h]; exact h0 h
theorem dec_ifs [Decidable p] (h1 : p → ks_if sa sb env S F true ih) (h0 : ¬ p → ks_if sa sb env S F false ih) : ks_if sa sb env S F (decide p) ih := by
  by_cases h : p
  · rw [decide_eq_true h]; exact h1 h
  · rw [decide_eq_false h]; exact h0 h
end
end L3
/-! L8: loops and lists, run backwards. -/
namespace L3
open PySem PySem.Spec PyProof.Rows L2
/-- a fact that the walk does not see -/
structure Hide (p : Prop) : Prop where
  get : p
/-- all but p, and what is new, is as before -/
abbrev Fr (p : Nat) (ih ih' : IH) : Prop := ∀ n, n < ih.length → n ≠ p → ih'[n]? = ih[n]?
abbrev Fx (ih ih' : IH) : Prop := ∀ n, n < ih.length → ih'[n]? = ih[n]?
theorem g_new {ih : IH} {o : MO} : (ih ++ [o])[ih.length]? = some o := get_new _ _
theorem g_nw {ih : IH} {o : MO} {n : Nat} (h : n = ih.length) : (ih ++ [o])[n]? = some o := h ▸ get_new _ _
theorem g_old {ih : IH} {o : MO} {n : Nat} (h : n < ih.length) : (ih ++ [o])[n]? = ih[n]? := List.getElem?_append_left h
theorem g_set {ih : IH} {o : MO} {n : Nat} (h : n < ih.length) : (ih.set n o)[n]? = some o := List.getElem?_set_self h
theorem g_sne {ih : IH} {o : MO} {n m : Nat} (h : m ≠ n) : (ih.set m o)[n]? = ih[n]? := List.getElem?_set_ne h
theorem Fr.refl {p : Nat} {ih : IH} : Fr p ih ih := fun _ _ _ => rfl
theorem Fx.refl {ih : IH} : Fx ih ih := fun _ _ => rfl
theorem Fx.fr {p : Nat} {a b : IH} (h : Fx a b) : Fr p a b := fun n l _ => h n l
theorem Fr.trans {p : Nat} {a b c : IH} (h : Fr p a b) (k : Fr p b c) (l : a.length ≤ b.length) : Fr p a c := fun n h1 h2 => by rw [k n (by omega) h2, h n h1 h2]
theorem Fx.trans {a b c : IH} (h : Fx a b) (k : Fx b c) (l : a.length ≤ b.length) : Fx a c := fun n h1 => by rw [k n (by omega), h n h1]
theorem Fx.app {a : IH} {o : MO} : Fx a (a ++ [o]) := fun n h => g_old h
theorem Fx.ext {a b : IH} (h : Fx a b) : Ext a b := fun n o e => by rw [h n (lt_of_get e)]; exact e
theorem Ext.fx {a b : IH} (h : Ext a b) : Fx a b := fun n l => by
  rw [List.getElem?_eq_getElem l]
  exact h n _ (List.getElem?_eq_getElem l)
theorem Fx.set {a b : IH} {n : Nat} {o : MO} (h : Fx a b) (l : a.length ≤ n) : Fx a (b.set n o) := fun m hm => by
  rw [g_sne (by omega)]
  exact h m hm
theorem Fr.set {p : Nat} {a b : IH} {n : Nat} {o : MO} (h : Fr p a b) (l : a.length ≤ n) : Fr p a (b.set n o) := fun m hm hp => by
  rw [g_sne (by omega)]
  exact h m hm hp
theorem Fr.setp {p : Nat} {a b : IH} {o : MO} (h : Fr p a b) : Fr p a (b.set p o) := fun m hm hp => by
  rw [g_sne (by omega)]
  exact h m hm hp
/-- a loop's body -/
def kf (P : Env → IH → Prop) (S : SQ) : SQ := fun f ih => match f with
  | .next e => P e ih
  | .cont e => P e ih
  | .brk e => S (.next e) ih
  | .ret v => S (.ret v) ih
section
variable {P : Env → IH → Prop} {S : SQ} {F : ES} {env : Env} {ih : IH} {v : IV}
/-- what holds behind a turn -/
def Inv (P : Env → IH → Prop) (env : Env) (ih : IH) : Prop := P env ih
theorem Inv.mk (h : P env ih) : Inv P env ih := h
theorem kf_next : kf P S (.next env) ih = Inv P env ih := rfl
theorem kf_cont : kf P S (.cont env) ih = Inv P env ih := rfl
theorem kf_brk : kf P S (.brk env) ih = S (.next env) ih := rfl
theorem kf_ret : kf P S (.ret v) ih = S (.ret v) ih := rfl
theorem ws_loop {r : RS} {k : Env → IH → RS} (h : ws r (kf P S) F) (hk : ∀ env ih, P env ih → ws (k env ih) S F) : ws (r.loop k) S F := by
  cases r with
  | ok f ih =>
    cases f with
    | next e => with_unfolding_all exact hk _ _ h
    | cont e => with_unfolding_all exact hk _ _ h
    | brk e => with_unfolding_all exact h
    | ret v => with_unfolding_all exact h
  | exc c e ih => with_unfolding_all exact h
  | stuck => with_unfolding_all exact h
theorem go_ind {s : Src} {g : IV → Env → IH → Option Env} {mb : Env → IH → RS} (k : Nat) (P : Nat → Env → IH → Prop)
    (turn : ∀ i env ih, i < k → P i env ih → ∃ v ih1 env1, s.turn i ih = .item v ih1 ∧ g v env ih1 = some env1 ∧ ws (mb env1 ih1) (kf (P (i + 1)) S) F)
    (stop : ∀ env ih, P k env ih → s.turn k ih = .stop ∧ S (.next env) ih) : ∀ (f i : Nat) (env : Env) (ih : IH), i ≤ k → k - i < f → P i env ih → ws (forGo s g mb f i env ih) S F := by
  intro f
  induction f with
  | zero => intro i env ih h1 h2; omega
  | succ f hf =>
    intro i env ih h1 h2 hP
    unfold forGo
    by_cases hi : i = k
    · subst hi
      obtain ⟨e1, e2⟩ := stop env ih hP
      rw [e1]
      with_unfolding_all exact e2
    · obtain ⟨v, ih1, env1, e1, e2, e3⟩ := turn i env ih (by omega) hP
      rw [e1]
      dsimp only
      rw [e2]
      exact ws_loop e3 fun env2 ih2 h => hf (i + 1) env2 ih2 (by omega) (by omega) h
/-- for x in range -/
theorem for_rng {mb : Env → IH → RS} {x : Nat} {lo d : Int} {k : Nat} (P : Nat → Env → IH → Prop) (h0 : P 0 env ih)
    (step : ∀ i env ih, i < k → P i env ih → ws (mb (env.set x (some (.int (lo + (i : Int) * d)))) ih) (kf (P (i + 1)) S) F) (fin : ∀ env ih, P k env ih → S (.next env) ih) : ks_for (g_nm x) mb env S F (.rng lo d k) ih :=
  go_ind k P (fun i env ih hi h => ⟨_, _, _, turn_rng hi, rfl, step i env ih hi h⟩) (fun env ih h => ⟨stop_rng, fin env ih h⟩) _ 0 env ih (Nat.zero_le _) (by show k - 0 < k + 1; omega) h0
theorem for_rng0 {mb : Env → IH → RS} {x : Nat} {k : Nat} (P : Nat → Env → IH → Prop) (h0 : P 0 env ih)
    (step : ∀ i env ih, i < k → P i env ih → ws (mb (env.set x (some (.int (i : Int)))) ih) (kf (P (i + 1)) S) F) (fin : ∀ env ih, P k env ih → S (.next env) ih) : ks_for (g_nm x) mb env S F (.rng 0 1 k) ih :=
  for_rng P h0 (fun i env ih hi h => by rw [show (0 : Int) + (i : Int) * 1 = (i : Int) by omega]; exact step i env ih hi h) fin
theorem for_rng1' {mb : Env → IH → RS} {x : Nat} {lo : Int} {k : Nat} (P : Nat → Env → IH → Prop) (h0 : P 0 env ih)
    (step : ∀ i env ih, i < k → P i env ih → ws (mb (env.set x (some (.int (lo + (i : Int))))) ih) (kf (P (i + 1)) S) F) (fin : ∀ env ih, P k env ih → S (.next env) ih) : ks_for (g_nm x) mb env S F (.rng lo 1 k) ih :=
  for_rng P h0 (fun i env ih hi h => by rw [show lo + (i : Int) * 1 = lo + (i : Int) by omega]; exact step i env ih hi h) fin
/-- for x in a list that stays -/
theorem for_lstG {g : IV → Env → IH → Option Env} {mb : Env → IH → RS} {n : Nat} {o : MO} (P : Nat → Env → IH → Prop) (hg : ih[n]? = some o) (hl : o.isL = true) (h0 : P 0 env ih) (ho : ∀ i env ih, P i env ih → ih[n]? = some o)
    (step : ∀ i v env ih, o.xs[i]? = some v → P i env ih → ∃ env1, g v env ih = some env1 ∧ ws (mb env1 ih) (kf (P (i + 1)) S) F) (fin : ∀ env ih, P o.xs.length env ih → S (.next env) ih) : ks_for g mb env S F (.lst n) ih :=
  go_ind o.xs.length P (fun i env ih hi h => by
    obtain ⟨env1, e1, e2⟩ := step i _ env ih (List.getElem?_eq_getElem hi) h
    exact ⟨_, _, env1, turn_lst (ho _ _ _ h) hl (List.getElem?_eq_getElem hi), e1, e2⟩) (fun env ih h => ⟨stop_lst (ho _ _ _ h) hl, fin env ih h⟩) _ 0 env ih (Nat.zero_le _) (by
    show _ < (Src.lst n).size ih + 1
    unfold Src.size
    dsimp only
    rw [hg]
    dsimp only
    omega) h0
theorem for_lst1 {mb : Env → IH → RS} {x n : Nat} {o : MO} (P : Nat → Env → IH → Prop) (hg : ih[n]? = some o) (hl : o.isL = true) (h0 : P 0 env ih) (ho : ∀ i env ih, P i env ih → ih[n]? = some o)
    (step : ∀ i v env ih, o.xs[i]? = some v → P i env ih → ws (mb (env.set x (some v)) ih) (kf (P (i + 1)) S) F) (fin : ∀ env ih, P o.xs.length env ih → S (.next env) ih) : ks_for (g_nm x) mb env S F (.lst n) ih :=
  for_lstG P hg hl h0 ho (fun i v env ih e h => ⟨_, rfl, step i v env ih e h⟩) fin
theorem for_enum {g : IV → Env → IH → Option Env} {mb : Env → IH → RS} {n : Nat} {o : MO} (P : Nat → Env → IH → Prop) (hg : ih[n]? = some o) (hl : o.isL = true) (h0 : P 0 env ih) (ho : ∀ i env ih, P i env ih → ih[n]? = some o)
    (step : ∀ i v env ih, o.xs[i]? = some v → P i env ih → ∃ env1, g (.ref ih.length) env (ih ++ [.tup [.int (i : Int), v]]) = some env1 ∧ ws (mb env1 (ih ++ [.tup [.int (i : Int), v]])) (kf (P (i + 1)) S) F) (fin : ∀ env ih, P o.xs.length env ih → S (.next env) ih) : ks_for g mb env S F (.enm n) ih :=
  go_ind o.xs.length P (fun i env ih hi h => by
    obtain ⟨env1, e1, e2⟩ := step i _ env ih (List.getElem?_eq_getElem hi) h
    exact ⟨_, _, env1, turn_enm (ho _ _ _ h) hl (List.getElem?_eq_getElem hi), e1, e2⟩) (fun env ih h => ⟨stop_enm (ho _ _ _ h) hl, fin env ih h⟩) _ 0 env ih (Nat.zero_le _) (by
    show _ < (Src.enm n).size ih + 1
    unfold Src.size
    dsimp only
    rw [hg]
    dsimp only
    omega) h0
theorem for_zip2 {g : IV → Env → IH → Option Env} {mb : Env → IH → RS} {n m : Nat} {o u : MO} (P : Nat → Env → IH → Prop) (hg : ih[n]? = some o) (hl : o.isL = true) (hl2 : u.isL = true) (h0 : P 0 env ih) (ho : ∀ i env ih, P i env ih → ih[n]? = some o ∧ ih[m]? = some u)
    (step : ∀ i v w env ih, o.xs[i]? = some v → u.xs[i]? = some w → P i env ih → ∃ env1, g (.ref ih.length) env (ih ++ [.tup [v, w]]) = some env1 ∧ ws (mb env1 (ih ++ [.tup [v, w]])) (kf (P (i + 1)) S) F) (fin : ∀ env ih, P (min o.xs.length u.xs.length) env ih → S (.next env) ih) : ks_for g mb env S F (.zip n m) ih :=
  go_ind (min o.xs.length u.xs.length) P (fun i env ih hi h => by
    obtain ⟨env1, e1, e2⟩ := step i _ _ env ih (List.getElem?_eq_getElem (by omega)) (List.getElem?_eq_getElem (by omega)) h
    exact ⟨_, _, env1, turn_zip (ho _ _ _ h).1 hl (List.getElem?_eq_getElem (by omega)) (ho _ _ _ h).2 hl2 (List.getElem?_eq_getElem (by omega)), e1, e2⟩) (fun env ih h => ⟨stop_zip (ho _ _ _ h).1 hl (ho _ _ _ h).2 hl2 (by omega), fin env ih h⟩) _ 0 env ih (Nat.zero_le _) (by
    show _ < (Src.zip n m).size ih + 1
    unfold Src.size
    dsimp only
    rw [hg]
    dsimp only
    omega) h0
/-- while, with what gets less -/
theorem while_ind {n : Env → IH → Res Bool} {mb : Env → IH → RS} (P : Env → IH → Prop) (μ : Env → IH → Nat → Prop)
    (step : ∀ k env ih, P env ih → μ env ih k → wp (n env ih) (fun b ih1 => if b = true then ws (mb env ih1) (kf (fun e i => P e i ∧ ∃ j, j < k ∧ μ e i j) S) F else S (.next env) ih1) (kE F env)) :
    ∀ (f k : Nat) (env : Env) (ih : IH), P env ih → μ env ih k → k < f → ws (whileGo n mb f env ih) S F := by
  intro f
  induction f with
  | zero => intro k env ih _ _ h; omega
  | succ f hf =>
    intro k env ih hP hm hk
    unfold whileGo
    rw [ws_stm]
    refine wp.imp (step k env ih hP hm) (fun b ih1 h => ?_) fun _ _ h => h
    cases b with
    | true =>
      rw [if_pos rfl] at h ⊢
      exact ws_loop h fun env2 ih2 ⟨h1, j, h2, h3⟩ => hf j env2 ih2 h1 h3 (by omega)
    | false => with_unfolding_all exact h
end
section
variable {Q : PQ IV} {E : EQ} {env : Env} {ih : IH}
theorem k_lAt_of {ih : IH} {n : Nat} {o : MO} (h : ih[n]? = some o) (hl : o.isL = true) : lAt ih n true = some o.xs := lAt_of h hl
/-- [me for x in xs if n] -/
theorem lc_flt {vs : List Nat} {i n : Nat} {mt : Env → IH → Res Bool} {me : Env → IH → Res IV} {o : MO} (F : IV → IV) (T : IV → Bool) (ho : ih[n]? = some o) (hl : o.isL = true) (hz : o.xs.length < 100000)
    (ht : ∀ x ∈ o.xs, ∀ ih', Fx ih ih' → wp (mt ((wipeI env vs).set i (some x)) ih') (fun b ih'' => b = T x ∧ ih'' = ih') E0)
    (he : ∀ x ∈ o.xs, T x = true → ∀ ih', Fx ih ih' → wp (me ((wipeI env vs).set i (some x)) ih') (fun v ih'' => v = F x ∧ ih'' = ih') E0)
    (q : Q (.ref ih.length) (ih ++ [.lst ((o.xs.filter T).map F)])) : k_lc vs (g_nm i) mt me env Q E (.lst n) ih := by
  have h := lc_lst (vs := vs) (m := m_c (.ref n)) (i := i) (n := mt) (me := me) (env := env) (ih := ih) F T rfl ho hl hz (fun x hx ih' e => (ht x hx ih' e.fx).eq) fun x hx t ih' e => (he x hx t ih' e.fx).eq
  have k := wp.of (E := E) h q
  rw [wp_lc, wp_il, wp_c, kk_il, lAt_of ho hl, kk_il2] at k
  exact k
/-- [me for x in xs] -/
theorem lc_all {vs : List Nat} {i n : Nat} {me : Env → IH → Res IV} {o : MO} (F : IV → IV) (ho : ih[n]? = some o) (hl : o.isL = true) (hz : o.xs.length < 100000)
    (he : ∀ x ∈ o.xs, ∀ ih', Fx ih ih' → wp (me ((wipeI env vs).set i (some x)) ih') (fun v ih'' => v = F x ∧ ih'' = ih') E0)
    (q : Q (.ref ih.length) (ih ++ [.lst (o.xs.map F)])) : k_lc vs (g_nm i) n_yes me env Q E (.lst n) ih := by
  have h := lc_map (vs := vs) (m := m_c (.ref n)) (i := i) (me := me) (env := env) (ih := ih) F rfl ho hl hz fun x hx ih' e => (he x hx ih' e.fx).eq
  have k := wp.of (E := E) h q
  rw [wp_lc, wp_il, wp_c, kk_il, lAt_of ho hl, kk_il2] at k
  exact k
/-- over a list of ints -/
theorem lc_int {vs : List Nat} {i n : Nat} {me : Env → IH → Res IV} {o : MO} {ns : List Int} (F : Int → IV) (ho : ih[n]? = some o) (hl : o.isL = true) (hx : o.xs = ns.map IV.int) (hz : ns.length < 100000)
    (he : ∀ x ∈ ns, ∀ ih', Fx ih ih' → wp (me ((wipeI env vs).set i (some (.int x))) ih') (fun v ih'' => v = F x ∧ ih'' = ih') E0)
    (q : Q (.ref ih.length) (ih ++ [.lst (ns.map F)])) : k_lc vs (g_nm i) n_yes me env Q E (.lst n) ih := by
  have e : (ns.map IV.int).map (fun | .int k => F k | _ => .non) = ns.map F := by rw [List.map_map]; rfl
  refine lc_all (fun | .int k => F k | _ => .non) ho hl (by rw [hx, List.length_map]; exact hz) (fun x hx' ih' f => ?_) (by rw [hx, e]; exact q)
  rw [hx] at hx'
  obtain ⟨k, hk, rfl⟩ := List.mem_map.mp hx'
  exact he k hk ih' f
/-- [me for i in range(j)] -/
theorem lc_rngW {vs : List Nat} {i : Nat} {me : Env → IH → Res IV} {j : Nat} (F : Nat → IV) (hz : j < 100000)
    (he : ∀ k, k < j → ∀ ih', Fx ih ih' → wp (me ((wipeI env vs).set i (some (.int (k : Int)))) ih') (fun v ih'' => v = F k ∧ ih'' = ih') E0)
    (q : Q (.ref ih.length) (ih ++ [.lst ((List.range j).map F)])) : k_lc vs (g_nm i) n_yes me env Q E (.rng 0 1 j) ih := by
  have sj : smallI (j : Int) = true := smallI_mk (by omega) (by omega)
  have h := lc_rng (vs := vs) (m := fun _ ih => .ok [.int (j : Int)] ih) (i := i) (me := me) (env := env) (ih := ih) (j := (j : Int)) F rfl sj (by omega) fun x hx ih' e => (he x (by omega) ih' e.fx).eq
  rw [Int.toNat_natCast] at h
  have k : wp (m_lc vs (mi_rng1 fun _ ih => .ok [.int (j : Int)] ih) (g_nm i) n_yes me env ih) Q E := by
    rw [h, wp_ok]
    exact q
  rw [wp_lc, wp_r1] at k
  replace k : wp (Res.ok [IV.int (j : Int)] ih) _ E := k
  rw [wp_ok] at k
  have k2 := k.2
  rw [Int.toNat_natCast] at k2
  exact k2
theorem lc_zipW {vs : List Nat} {i j n m : Nat} {me : Env → IH → Res IV} {o u : MO} (F : IV → IV → IV) (ho : ih[n]? = some o) (hl : o.isL = true) (hu : ih[m]? = some u) (hl2 : u.isL = true) (hz : o.xs.length < 100000)
    (he : ∀ (k : Nat) (x y : IV), o.xs[k]? = some x → u.xs[k]? = some y → ∀ ih', Fx ih ih' → wp (me (((wipeI env vs).set i (some x)).set j (some y)) ih') (fun v ih'' => v = F x y ∧ ih'' = ih') E0)
    (q : ∀ ih', Fx ih ih' → ih.length < ih'.length → ih'[ih.length]? = some (.lst (List.zipWith F o.xs u.xs)) → Q (.ref ih.length) ih') : k_lc vs (g_tup 2 (g_cons (g_nm i) (g_cons (g_nm j) g_nil))) n_yes me env Q E (.zip n m) ih := by
  obtain ⟨ih', h, x, g⟩ := lc_zip (vs := vs) (m := fun _ ih => .ok [.ref n, .ref m] ih) (i := i) (j := j) (me := me) (env := env) (ih := ih) F rfl ho hl hu hl2 hz fun k x y h1 h2 ih' e => (he k x y h1 h2 ih' e.fx).eq
  have k := wp.of (E := E) h (q ih' x.fx (lt_of_get g) g)
  rw [wp_lc, wp_iz] at k
  replace k : wp (Res.ok [IV.ref n, IV.ref m] ih) _ E := k
  rw [wp_ok] at k
  have k2 : k_iz (k_lc vs (g_tup 2 (g_cons (g_nm i) (g_cons (g_nm j) g_nil))) n_yes me env Q E) [.ref n, .ref m] ih := k
  rw [kk_iz, lAt_of ho hl, lAt_of hu hl2, kk_iz2] at k2
  exact k2
theorem wp_sumW {n : Nat} {o : MO} {ns : List Int} (h : ih[n]? = some o) (hl : o.isL = true) (hx : o.xs = ns.map IV.int) (q : Q (.int ns.sum) ih) : wp (f_sum [.ref n] ih) Q E := wp.of (a_sum h hl hx) q
theorem wp_allW {n : Nat} {o : MO} {ns : List Bool} (h : ih[n]? = some o) (hl : o.isL = true) (hx : o.xs = ns.map IV.bl) (q : Q (.bl (ns.all id)) ih) : wp (f_all [.ref n] ih) Q E := wp.of (a_all h hl hx) q
theorem wp_anyW {n : Nat} {o : MO} {ns : List Bool} (h : ih[n]? = some o) (hl : o.isL = true) (hx : o.xs = ns.map IV.bl) (q : Q (.bl (ns.any id)) ih) : wp (f_any [.ref n] ih) Q E := wp.of (a_any h hl hx) q
theorem wp_slL {n : Nat} {xs : List IV} {lo hi : Option Int} (h : ih[n]? = some (.lst xs)) (q : Q (.ref ih.length) (ih ++ [.lst (cutI xs lo hi)])) : wp (f_sl (.ref n) lo hi ih) Q E := wp.of (a_slL h) q
end
/-- a choice -/
theorem k_pick {Q : PQ IV} {ih : IH} {xs : List IV} {i : Int} (h0 : 0 ≤ i) (h1 : i < (xs.length : Int)) (k : ∀ v ∈ xs, Q v ih) : k_ix2 Q ih (atI xs i) := by
  obtain ⟨m, rfl⟩ := Int.eq_ofNat_of_zero_le h0
  have hm : m < xs.length := by omega
  rw [atI_nn, List.getElem?_eq_getElem hm]
  exact k _ (List.getElem_mem hm)
def allI (P : Int → Prop) : List IV → Prop
  | [] => True
  | .int z :: r => P z ∧ allI P r
  | _ :: _ => False
theorem allI_mem {P : Int → Prop} : ∀ {xs : List IV}, allI P xs → ∀ v ∈ xs, ∃ z, v = .int z ∧ P z
  | [], _, v, h => nomatch h
  | .int z :: r, h, v, hv => by
    rcases List.mem_cons.mp hv with e | e
    · exact ⟨z, e, h.1⟩
    · exact allI_mem h.2 v e
theorem k_pickI (P : Int → Prop) {Q : PQ IV} {ih : IH} {xs : List IV} {i : Int} (h0 : 0 ≤ i) (h1 : i < (xs.length : Int)) (ha : allI P xs) (k : ∀ z, P z → Q (.int z) ih) : k_ix2 Q ih (atI xs i) := k_pick h0 h1 fun v hv => by
  obtain ⟨z, rfl, hz⟩ := allI_mem ha v hv
  exact k z hz
theorem wp_allL {Q : PQ IV} {E : EQ} {ih : IH} {n : Nat} (ns : List Bool) (h : ih[n]? = some (.lst (ns.map IV.bl))) (q : Q (.bl (ns.all id)) ih) : wp (f_all [.ref n] ih) Q E := wp.of (a_all h rfl rfl) q
theorem wp_anyL {Q : PQ IV} {E : EQ} {ih : IH} {n : Nat} (ns : List Bool) (h : ih[n]? = some (.lst (ns.map IV.bl))) (q : Q (.bl (ns.any id)) ih) : wp (f_any [.ref n] ih) Q E := wp.of (a_any h rfl rfl) q
theorem wp_sumL {Q : PQ IV} {E : EQ} {ih : IH} {n : Nat} (ns : List Int) (h : ih[n]? = some (.lst (ns.map IV.int))) (q : Q (.int ns.sum) ih) : wp (f_sum [.ref n] ih) Q E := wp.of (a_sum h rfl rfl) q
/-- over a list of ints -/
theorem lc_intL {Q : PQ IV} {E : EQ} {env : Env} {ih : IH} {vs : List Nat} {i n : Nat} {me : Env → IH → Res IV} (ns : List Int) (F : Int → IV) (ho : ih[n]? = some (.lst (ns.map IV.int))) (hz : ns.length < 100000)
    (he : ∀ x ∈ ns, ∀ ih', Fx ih ih' → wp (me ((wipeI env vs).set i (some (.int x))) ih') (fun v ih'' => v = F x ∧ ih'' = ih') E0)
    (q : Q (.ref ih.length) (ih ++ [.lst (ns.map F)])) : k_lc vs (g_nm i) n_yes me env Q E (.lst n) ih := lc_int F ho rfl rfl hz he q
/-- over a list of ints, with a test -/
theorem lc_intT {Q : PQ IV} {E : EQ} {env : Env} {ih : IH} {vs : List Nat} {i n : Nat} {mt : Env → IH → Res Bool} {me : Env → IH → Res IV} (ns : List Int) (T : Int → Bool) (F : Int → IV) (ho : ih[n]? = some (.lst (ns.map IV.int))) (hz : ns.length < 100000)
    (ht : ∀ x ∈ ns, ∀ ih', Fx ih ih' → wp (mt ((wipeI env vs).set i (some (.int x))) ih') (fun v ih'' => v = T x ∧ ih'' = ih') E0)
    (he : ∀ x ∈ ns, T x = true → ∀ ih', Fx ih ih' → wp (me ((wipeI env vs).set i (some (.int x))) ih') (fun v ih'' => v = F x ∧ ih'' = ih') E0)
    (q : Q (.ref ih.length) (ih ++ [.lst ((ns.filter T).map F)])) : k_lc vs (g_nm i) mt me env Q E (.lst n) ih := by
  refine lc_flt (fun | .int k => F k | _ => .non) (fun | .int k => T k | _ => false) ho rfl (by rw [xs_lst, List.length_map]; exact hz) (fun x hx ih' f => ?_) (fun x hx t ih' f => ?_) ?_
  · obtain ⟨k, hk, rfl⟩ := List.mem_map.mp hx
    exact ht k hk ih' f
  · obtain ⟨k, hk, rfl⟩ := List.mem_map.mp hx
    exact he k hk t ih' f
  · rw [xs_lst, List.filter_map, List.map_map]
    exact q
/-- what is new, by a name of its own -/
theorem newN {P : IV → IH → Prop} {ih : IH} {o : MO} (k : ∀ n ih', ih.length ≤ n → n < ih'.length → ih'.length ≤ ih.length + 1 → Fx ih ih' → ih'[n]? = some o → P (.ref n) ih') : P (.ref ih.length) (ih ++ [o]) := k _ _ (Nat.le_refl _) (by simp) (by simp) Fx.app g_new
/-- both ways give the same -/
theorem if_join {α : Type} {ma mb : Env → IH → Res α} {env : Env} {ih : IH} {Q : PQ α} {E : EQ} {b : Bool} (v : α) (h1 : b = true → wp (ma env ih) (fun x ih' => x = v ∧ ih' = ih) E0) (h0 : b = false → wp (mb env ih) (fun x ih' => x = v ∧ ih' = ih) E0) (q : Q v ih) : k_if ma mb env Q E b ih := by
  cases b with
  | true => exact wp.of (h1 rfl).eq q
  | false => exact wp.of (h0 rfl).eq q
theorem ws_while {n : Nat} {mt : Env → IH → Res Bool} {mb : Env → IH → RS} {env : Env} {ih : IH} {S : SQ} {F : ES} : ws (ms_while n mt mb env ih) S F = ws (whileGo mt mb n env ih) S F := rfl
theorem ws_whileA {n : Nat} {mt : Env → IH → Res Bool} {mb : Env → IH → RS} {env : Env} {ih : IH} {S : SQ} {F : ES} : ws (ms_while n mt mb env ih) S F = ∀ fu, fu = n → ws (whileGo mt mb fu env ih) S F := by
  rw [forall_eq]
  rfl
theorem g_pair {i j : Nat} {v w : IV} {env : Env} {ih : IH} : g_tup 2 (g_cons (g_nm i) (g_cons (g_nm j) g_nil)) (.ref ih.length) env (ih ++ [.tup [v, w]]) = some ((env.set i (some v)).set j (some w)) := by
  unfold g_tup
  dsimp only
  rw [g_new]
  rfl
theorem cutI_m1 (xs : List IV) (x : IV) : cutI (xs ++ [x]) none (some (-1)) = xs := by
  unfold cutI
  rw [HT.sIx_none]
  have e : HT.sIx (xs ++ [x]).length (xs ++ [x]).length (some (-1)) = xs.length := by
    have h := HT.clip_eq (-1) (xs ++ [x]).length (xs ++ [x]).length
    rw [if_pos (by decide)] at h
    simp only [List.length_append, List.length_singleton] at h ⊢
    omega
  rw [e, List.drop_zero, Nat.sub_zero, List.take_left']
  rfl
/-! ### isinstance -/
section
variable {Q : PQ IV} {E : EQ} {ih : IH} {n : Nat} {i : Int} {xs : List IV}
theorem kit_ii : kitB "int" "int" = some true := by decide +kernel
theorem kit_ib : kitB "int" "bool" = some false := by decide +kernel
theorem kit_ll : kitB "list" "list" = some true := by decide +kernel
theorem kit_tt : kitB "tuple" "tuple" = some true := by decide +kernel
theorem kit_lt : kitB "list" "tuple" = some false := by decide +kernel
theorem kit_tl : kitB "tuple" "list" = some false := by decide +kernel
theorem kit2_NoneType_int : kitB "NoneType" "int" = some false := by decide +kernel
theorem kit2_NoneType_bool : kitB "NoneType" "bool" = some false := by decide +kernel
theorem kit2_NoneType_list : kitB "NoneType" "list" = some false := by decide +kernel
theorem kit2_NoneType_tuple : kitB "NoneType" "tuple" = some false := by decide +kernel
theorem kit2_NoneType_str : kitB "NoneType" "str" = some false := by decide +kernel
theorem kit2_bool_int : kitB "bool" "int" = some true := by decide +kernel
theorem kit2_bool_bool : kitB "bool" "bool" = some true := by decide +kernel
theorem kit2_bool_list : kitB "bool" "list" = some false := by decide +kernel
theorem kit2_bool_tuple : kitB "bool" "tuple" = some false := by decide +kernel
theorem kit2_bool_str : kitB "bool" "str" = some false := by decide +kernel
theorem kit2_str_int : kitB "str" "int" = some false := by decide +kernel
theorem kit2_str_bool : kitB "str" "bool" = some false := by decide +kernel
theorem kit2_str_list : kitB "str" "list" = some false := by decide +kernel
theorem kit2_str_tuple : kitB "str" "tuple" = some false := by decide +kernel
theorem kit2_str_str : kitB "str" "str" = some true := by decide +kernel
theorem kit2_dict_int : kitB "dict" "int" = some false := by decide +kernel
theorem kit2_dict_bool : kitB "dict" "bool" = some false := by decide +kernel
theorem kit2_dict_list : kitB "dict" "list" = some false := by decide +kernel
theorem kit2_dict_tuple : kitB "dict" "tuple" = some false := by decide +kernel
theorem kit2_dict_str : kitB "dict" "str" = some false := by decide +kernel
theorem kit2_list_int : kitB "list" "int" = some false := by decide +kernel
theorem kit2_list_bool : kitB "list" "bool" = some false := by decide +kernel
theorem kit2_list_str : kitB "list" "str" = some false := by decide +kernel
theorem kit2_tuple_int : kitB "tuple" "int" = some false := by decide +kernel
theorem kit2_tuple_bool : kitB "tuple" "bool" = some false := by decide +kernel
theorem kit2_tuple_str : kitB "tuple" "str" = some false := by decide +kernel
theorem kit2_int_list : kitB "int" "list" = some false := by decide +kernel
theorem kit2_int_tuple : kitB "int" "tuple" = some false := by decide +kernel
theorem kit2_int_str : kitB "int" "str" = some false := by decide +kernel
theorem wp_isiII : wp (f_isi [.int i, .ty "int"] ih) Q E = Q (.bl true) ih := by
  rw [show f_isi [.int i, .ty "int"] ih = .ok (.bl true) ih by
    unfold f_isi
    dsimp only [tyN]
    rw [kit_ii]]
  with_unfolding_all rfl
theorem wp_isiIB : wp (f_isi [.int i, .ty "bool"] ih) Q E = Q (.bl false) ih := by
  rw [show f_isi [.int i, .ty "bool"] ih = .ok (.bl false) ih by
    unfold f_isi
    dsimp only [tyN]
    rw [kit_ib]]
  with_unfolding_all rfl
theorem wp_isiI_list : wp (f_isi [.int i, .ty "list"] ih) Q E = Q (.bl false) ih := by
  rw [show f_isi [.int i, .ty "list"] ih = .ok (.bl false) ih by
    unfold f_isi
    dsimp only [tyN]
    rw [kit2_int_list]]
  with_unfolding_all rfl
theorem wp_isiI_tuple : wp (f_isi [.int i, .ty "tuple"] ih) Q E = Q (.bl false) ih := by
  rw [show f_isi [.int i, .ty "tuple"] ih = .ok (.bl false) ih by
    unfold f_isi
    dsimp only [tyN]
    rw [kit2_int_tuple]]
  with_unfolding_all rfl
theorem wp_isiI_str : wp (f_isi [.int i, .ty "str"] ih) Q E = Q (.bl false) ih := by
  rw [show f_isi [.int i, .ty "str"] ih = .ok (.bl false) ih by
    unfold f_isi
    dsimp only [tyN]
    rw [kit2_int_str]]
  with_unfolding_all rfl
def tyO : Option MO → Option String
  | some (.lst _) => some "list"
  | some (.tup _) => some "tuple"
  | some .dct => some "dict"
  | some (.dk _) => some "dict"
  | _ => none
def k_isi2 (Q : PQ IV) (ih : IH) : Option Bool → Prop
  | some b => Q (.bl b) ih
  | none => False
def k_isi (T : String) (Q : PQ IV) (ih : IH) : Option String → Prop
  | some t => k_isi2 Q ih (kitB t T)
  | none => False
theorem wp_isiN {T : String} : wp (f_isi [.non, .ty T] ih) Q E = k_isi2 Q ih (kitB "NoneType" T) := by
  unfold f_isi
  dsimp only [tyN]
  show wp (match kitB "NoneType" T with
    | some b => _
    | none => _) Q E = k_isi2 Q ih (kitB "NoneType" T)
  cases kitB "NoneType" T <;> with_unfolding_all rfl
theorem wp_isiBl {T : String} {b : Bool} : wp (f_isi [.bl b, .ty T] ih) Q E = k_isi2 Q ih (kitB "bool" T) := by
  unfold f_isi
  dsimp only [tyN]
  show wp (match kitB "bool" T with
    | some b => _
    | none => _) Q E = k_isi2 Q ih (kitB "bool" T)
  cases kitB "bool" T <;> with_unfolding_all rfl
theorem wp_isiS {T : String} {z : Str} : wp (f_isi [.str z, .ty T] ih) Q E = k_isi2 Q ih (kitB "str" T) := by
  unfold f_isi
  dsimp only [tyN]
  show wp (match kitB "str" T with
    | some b => _
    | none => _) Q E = k_isi2 Q ih (kitB "str" T)
  cases kitB "str" T <;> with_unfolding_all rfl
theorem wp_isiR {T : String} : wp (f_isi [.ref n, .ty T] ih) Q E = k_isi T Q ih (tyO ih[n]?) := by
  unfold f_isi
  dsimp only [tyN]
  cases ih[n]? with
  | none => with_unfolding_all rfl
  | some o =>
    cases o with
    | lst xs =>
      show wp (match kitB "list" T with
        | some b => _
        | none => _) Q E = k_isi2 Q ih (kitB "list" T)
      cases kitB "list" T <;> with_unfolding_all rfl
    | tup xs =>
      show wp (match kitB "tuple" T with
        | some b => _
        | none => _) Q E = k_isi2 Q ih (kitB "tuple" T)
      cases kitB "tuple" T <;> with_unfolding_all rfl
    | dct =>
      show wp (match kitB "dict" T with
        | some b => _
        | none => _) Q E = k_isi2 Q ih (kitB "dict" T)
      cases kitB "dict" T <;> with_unfolding_all rfl
    | dk kvs =>
      show wp (match kitB "dict" T with
        | some b => _
        | none => _) Q E = k_isi2 Q ih (kitB "dict" T)
      cases kitB "dict" T <;> with_unfolding_all rfl
    | _ => with_unfolding_all rfl
theorem tyO_l : tyO (some (.lst xs)) = some "list" := rfl
theorem tyO_d : tyO (some .dct) = some "dict" := rfl
theorem tyO_t : tyO (some (.tup xs)) = some "tuple" := rfl
theorem kk_isi {T t : String} : k_isi T Q ih (some t) = k_isi2 Q ih (kitB t T) := rfl
theorem kk_isi2 {b : Bool} : k_isi2 Q ih (some b) = Q (.bl b) ih := rfl
end
/-- over a range, with a test -/
theorem lc_rngT {Q : PQ IV} {E : EQ} {env : Env} {ih : IH} {vs : List Nat} {i : Nat} {mt : Env → IH → Res Bool} {me : Env → IH → Res IV} {j : Nat} {lo : Int} (T : Nat → Bool) (F : Nat → IV) (hz : j < 100000)
    (ht : ∀ k, k < j → ∀ ih', Fx ih ih' → wp (mt ((wipeI env vs).set i (some (.int (lo + (k : Int))))) ih') (fun v ih'' => v = T k ∧ ih'' = ih') E0)
    (he : ∀ k, k < j → T k = true → ∀ ih', Fx ih ih' → wp (me ((wipeI env vs).set i (some (.int (lo + (k : Int))))) ih') (fun v ih'' => v = F k ∧ ih'' = ih') E0)
    (q : Q (.ref ih.length) (ih ++ [.lst (((List.range j).filter T).map F)])) : k_lc vs (g_nm i) mt me env Q E (.rng lo 1 j) ih := by
  show wp (lcGo (.rng lo 1 j) (g_nm i) mt me ih.length (wipeI env vs) (j + 1) 0 (ih ++ [.lst []])) Q E
  obtain ⟨acc', ih', e1, e2, e3⟩ := lcGo_ind (s := .rng lo 1 j) (g := g_nm i) (n := mt) (me := me) (d := ih.length) (env := wipeI env vs) j (fun k acc ih' => acc = ((List.range k).filter T).map F ∧ ih' = ih ++ [.lst acc])
    (fun k acc ih2 hk ⟨ha, hi⟩ hd => by
      subst hi
      have e0 : lo + (k : Int) * 1 = lo + (k : Int) := by omega
      refine ⟨.int (lo + (k : Int)), _, _, T k, _, by rw [turn_rng hk, e0], rfl, (ht k hk _ Fx.app).eq, fun hb => ⟨hd, ?_, rfl⟩, fun hb => ⟨_, _, (he k hk hb _ Fx.app).eq, hd, ?_, ?_, ?_⟩⟩
      · rw [List.range_succ, List.filter_append, ha, List.filter_cons, hb]
        simp
      · rw [ha, List.length_map]
        exact Nat.lt_of_le_of_lt (List.length_filter_le _ _) (by rw [List.length_range]; omega)
      · rw [List.range_succ, List.filter_append, ha, List.filter_cons, hb]
        simp
      · rw [set_append_last])
    (fun acc ih _ hd => stop_rng) (j + 1) 0 [] (ih ++ [.lst []]) (Nat.zero_le _) (by omega) ⟨by simp, rfl⟩ (get_new _ _)
  obtain ⟨h1, h2⟩ := e3
  rw [h2, h1] at e1
  exact wp.of e1 q
/-- over a range from 0, with a test -/
theorem lc_rngT0 {Q : PQ IV} {E : EQ} {env : Env} {ih : IH} {vs : List Nat} {i : Nat} {mt : Env → IH → Res Bool} {me : Env → IH → Res IV} {j : Nat} (T : Nat → Bool) (F : Nat → IV) (hz : j < 100000)
    (ht : ∀ k, k < j → ∀ ih', Fx ih ih' → wp (mt ((wipeI env vs).set i (some (.int (k : Int)))) ih') (fun v ih'' => v = T k ∧ ih'' = ih') E0)
    (he : ∀ k, k < j → T k = true → ∀ ih', Fx ih ih' → wp (me ((wipeI env vs).set i (some (.int (k : Int)))) ih') (fun v ih'' => v = F k ∧ ih'' = ih') E0)
    (q : Q (.ref ih.length) (ih ++ [.lst (((List.range j).filter T).map F)])) : k_lc vs (g_nm i) mt me env Q E (.rng 0 1 j) ih :=
  lc_rngT T F hz (fun k hk ih' f => by rw [Int.zero_add]; exact ht k hk ih' f) (fun k hk t ih' f => by rw [Int.zero_add]; exact he k hk t ih' f) q
/-- lists put together -/
theorem wp_cat {Q : PQ IV} {E : EQ} {ih : IH} {n m : Nat} {xs ys : List IV} (h1 : ih[n]? = some (.lst xs)) (h2 : ih[m]? = some (.lst ys)) (hl : xs.length + ys.length ≤ 100000) (q : Q (.ref ih.length) (ih ++ [.lst (xs ++ ys)])) : wp (f_add (.ref n) (.ref m) ih) Q E := by
  have e : f_add (.ref n) (.ref m) ih = .ok (.ref ih.length) (ih ++ [.lst (xs ++ ys)]) := by
    unfold f_add
    dsimp only
    rw [h1, h2]
    dsimp only
    rw [if_pos hl]
  exact wp.of e q
end L3
namespace L3
open PySem PySem.Spec PyProof.Rows L2

noncomputable def b_law_mixed (c : Cs) : Env → IH → RS := (ms_seq (ms_set (g_nm 2) (m_op f_add (m_op f_mod (m_app f_int (m_cons (m_var 0) m_nil)) (m_c (.int 2147483629))) (m_op f_mulA (m_op f_fdiv (m_var 0) (m_c (.int 2147483629))) (m_c (.int 30011)))))
 (ms_seq (ms_set (g_nm 2) (m_op f_mod (m_app f_int (m_cons (m_op f_mulA (m_op f_add (m_op f_add (m_var 2) (m_op f_mulA (m_c (.int 69621)) (m_var 1))) (m_c (.int 1))) (m_c (.int 48271))) m_nil)) (m_c (.int 2147483629))))
 (ms_seq (ms_set (g_nm 2) (m_op f_mod (m_app f_int (m_cons (m_op f_mulA (m_var 2) (m_op f_add (m_op f_add (m_op f_fdiv (m_var 2) (m_c (.int 907))) (m_c (.int 16831))) (m_var 1))) m_nil)) (m_c (.int 2147483587))))
 (ms_ret (m_op f_mod (m_app f_int (m_cons (m_op f_mulA (m_var 2) (m_op f_add (m_op f_fdiv (m_var 2) (m_c (.int 1201))) (m_c (.int 30011)))) m_nil)) (m_c (.int 2147483563)))))))
noncomputable def m_law_mixed (c : Cs) : List IV → IH → Res IV := defRun 3 (b_law_mixed c)
noncomputable def b_law_next (c : Cs) : Env → IH → RS := (ms_seq (ms_if (m_tb (m_op f_ge (m_op f_ix (m_var 0) (m_c (.int 0))) (m_op f_pow (m_c (.int 10)) (m_c (.int 18)))))
 (ms_seq (ms_set (g_nm 2) (m_op f_mod (m_app f_int (m_cons (m_op f_ix (m_var 0) (m_c (.int 0))) m_nil)) (m_var 1)))
 (ms_seq (ms_setL (m_op f_fdiv (m_op f_ix (m_var 0) (m_c (.int 0))) (m_var 1)) (m_var 0) (m_c (.int 0)))
 (ms_ret (m_var 2))))
 ms_pass)
 (ms_seq (ms_setL (m_op f_add (m_op f_ix (m_var 0) (m_c (.int 2))) (m_c (.int 1))) (m_var 0) (m_c (.int 2)))
 (ms_ret (m_op f_mod (m_app f_int (m_cons (m_app (f_call 2 [] (m_law_mixed c)) (m_cons (m_op f_ix (m_var 0) (m_c (.int 1))) (m_cons (m_op f_ix (m_var 0) (m_c (.int 2))) m_nil))) m_nil)) (m_var 1)))))
noncomputable def m_law_next (c : Cs) : List IV → IH → Res IV := defRun 3 (b_law_next c)
noncomputable def b_law_odd (c : Cs) : Env → IH → RS := (ms_seq (ms_set (g_nm 2) (m_app f_lst (m_cons (m_op f_sub (m_var 1) (m_c (.int 1))) (m_cons (m_un f_neg (m_op f_pow (m_c (.int 10)) (m_c (.int 30)))) (m_cons (m_c (.bl true)) (m_cons (m_c (.bl false)) (m_cons (m_c .non) (m_cons (m_c (.str "1")) (m_cons (m_app f_tup (m_cons (m_c (.int 1)) m_nil)) (m_cons (m_app f_lst (m_cons (m_c (.int 1)) m_nil)) (m_cons m_dct m_nil)))))))))))
 (ms_ret (m_op f_ix (m_var 2) (m_app (f_call 2 [] (m_law_next c)) (m_cons (m_var 0) (m_cons (m_app f_len (m_cons (m_var 2) m_nil)) m_nil))))))
noncomputable def m_law_odd (c : Cs) : List IV → IH → Res IV := defRun 3 (b_law_odd c)
noncomputable def b_law_odd_pair (c : Cs) : Env → IH → RS := (ms_seq (ms_set (g_nm 1) (m_app f_lst (m_cons (m_app f_tup (m_cons (m_c (.int 0)) (m_cons (m_c (.int 1)) m_nil))) (m_cons (m_app f_tup (m_cons (m_op f_shl (m_c (.int 1)) (m_c (.int 64))) (m_cons (m_c (.int 1)) m_nil))) (m_cons (m_app f_tup (m_cons (m_c (.int 1)) (m_cons (m_c (.int 65)) m_nil))) (m_cons (m_app f_tup (m_cons (m_c (.int 1)) (m_cons (m_un f_neg (m_c (.int 1))) m_nil))) (m_cons (m_app f_tup (m_cons (m_c (.bl true)) (m_cons (m_c (.int 1)) m_nil))) (m_cons (m_app f_tup (m_cons (m_c (.int 1)) (m_cons (m_c (.bl false)) m_nil))) (m_cons (m_app f_lst (m_cons (m_c (.int 1)) (m_cons (m_c (.int 1)) m_nil))) (m_cons (m_app f_tup (m_cons (m_c (.int 1)) m_nil)) (m_cons (m_app f_tup (m_cons (m_c (.int 1)) (m_cons (m_c (.int 1)) (m_cons (m_c (.int 1)) m_nil)))) (m_cons (m_c .non) (m_cons (m_c (.str "11")) m_nil)))))))))))))
 (ms_seq (ms_set (g_nm 1) (m_op f_add (m_var 1) (m_app f_lst (m_cons m_dct (m_cons (m_c (.int 7)) (m_cons (m_app f_tup (m_cons (m_c (.str "1")) (m_cons (m_c (.int 1)) m_nil))) (m_cons (m_app f_tup (m_cons (m_app f_lst (m_cons (m_c (.int 1)) m_nil)) (m_cons (m_c (.int 1)) m_nil))) (m_cons (m_app f_tup (m_cons (m_c (.int 1)) (m_cons (m_app f_lst (m_cons (m_c (.int 1)) m_nil)) m_nil))) (m_cons (m_app f_tup (m_cons (m_un f_neg (m_c (.int 3))) (m_cons (m_c (.int 2)) m_nil))) (m_cons (m_app f_tup (m_cons (m_c (.int 1)) (m_cons (m_c .non) m_nil))) (m_cons (m_app f_tup m_nil) m_nil)))))))))))
 (ms_ret (m_op f_ix (m_var 1) (m_app (f_call 2 [] (m_law_next c)) (m_cons (m_var 0) (m_cons (m_app f_len (m_cons (m_var 1) m_nil)) m_nil)))))))
noncomputable def m_law_odd_pair (c : Cs) : List IV → IH → Res IV := defRun 2 (b_law_odd_pair c)
noncomputable def b_law_odd_rows (c : Cs) : Env → IH → RS := (ms_seq (ms_set (g_nm 1) (m_app f_lst (m_cons (m_app f_lst m_nil) (m_cons (m_c .non) (m_cons (m_app f_tup m_nil) (m_cons (m_app f_tup (m_cons (m_app f_tup (m_cons (m_c (.int 0)) (m_cons (m_c (.int 0)) m_nil))) m_nil)) (m_cons (m_app f_lst (m_cons (m_app f_tup (m_cons (m_c (.int 0)) m_nil)) m_nil)) (m_cons (m_app f_lst (m_cons (m_app f_lst (m_cons (m_c (.int 0)) (m_cons (m_c (.int 0)) m_nil))) m_nil)) (m_cons (m_app f_lst (m_cons (m_app f_tup (m_cons (m_un f_neg (m_c (.int 1))) (m_cons (m_c (.int 0)) m_nil))) m_nil)) (m_cons (m_app f_lst (m_cons (m_app f_tup (m_cons (m_c (.int 0)) (m_cons (m_c (.bl true)) m_nil))) m_nil)) (m_cons (m_app f_lst (m_cons (m_app f_tup (m_cons (m_c (.bl true)) (m_cons (m_c (.int 0)) m_nil))) m_nil)) (m_cons (m_app f_lst (m_cons (m_app f_tup (m_cons (m_c (.int 0)) (m_cons (m_c (.str "1")) m_nil))) m_nil)) (m_cons m_dct (m_cons (m_c (.str "ab")) m_nil))))))))))))))
 (ms_seq (ms_set (g_nm 1) (m_op f_add (m_var 1) (m_app f_lst (m_cons (m_app f_lst (m_cons (m_app f_tup (m_cons (m_c (.int 0)) (m_cons (m_c (.int 0)) m_nil))) (m_cons (m_app f_tup (m_cons (m_c (.int 1)) (m_cons (m_c .non) m_nil))) m_nil))) (m_cons (m_app f_lst (m_cons (m_app f_tup (m_cons (m_c (.int 0)) (m_cons (m_c (.int 0)) (m_cons (m_c (.int 0)) m_nil)))) m_nil)) (m_cons (m_app f_lst (m_cons (m_c .non) m_nil)) (m_cons (m_app f_lst (m_cons (m_app f_tup (m_cons (m_c (.int 0)) (m_cons (m_c (.int 0)) m_nil))) (m_cons (m_app f_tup (m_cons (m_c (.int 2)) (m_cons (m_c (.int 1)) m_nil))) (m_cons (m_c (.int 7)) m_nil)))) (m_cons (m_app f_lst (m_cons (m_app f_tup (m_cons (m_app f_lst (m_cons (m_c (.int 0)) m_nil)) (m_cons (m_c (.int 0)) m_nil))) m_nil)) (m_cons (m_c (.int 3)) m_nil)))))))))
 (ms_ret (m_op f_ix (m_var 1) (m_app (f_call 2 [] (m_law_next c)) (m_cons (m_var 0) (m_cons (m_app f_len (m_cons (m_var 1) m_nil)) m_nil)))))))
noncomputable def m_law_odd_rows (c : Cs) : List IV → IH → Res IV := defRun 2 (b_law_odd_rows c)
noncomputable def tb_law_word_1 (c : Cs) (lams : Nat → Nat → IH → Res IV) : Env → IH → RS := (ms_ret (m_app f_tup (m_cons (m_c (.str "told")) (m_cons (m_call0 0 lams) m_nil))))
noncomputable def ts_law_word_1 (c : Cs) (lams : Nat → Nat → IH → Res IV) (ea ec : Addr) : Env → IH → RS := (ms_seq (ms_set (g_nm 2) (m_app f_lst (m_cons (m_app (f_isE c.K ea ec) (m_cons (m_var 1) (m_cons (m_c (.gl c.NoWidth)) m_nil))) (m_cons (m_app (f_isE c.K ea ec) (m_cons (m_var 1) (m_cons (m_c (.gl c.NoLooks)) m_nil))) (m_cons (m_app (f_isE c.K ea ec) (m_cons (m_var 1) (m_cons (m_c (.gl c.NoCycle)) m_nil))) (m_cons (m_app (f_isE c.K ea ec) (m_cons (m_var 1) (m_cons (m_c (.gl c.NoRate)) m_nil))) m_nil))))))
 (ms_seq (ms_set (g_nm 2) (m_op f_add (m_var 2) (m_app f_lst (m_cons (m_app (f_isE c.K ea ec) (m_cons (m_var 1) (m_cons (m_c (.gl c.NoReading)) m_nil))) (m_cons (m_app (f_isE c.K ea ec) (m_cons (m_var 1) (m_cons (m_c (.gl c.NoLine)) m_nil))) m_nil)))))
 (ms_seq (ms_if (m_or (m_tb (m_op f_ne (m_mL f_count (m_var 2) (m_cons (m_c (.bl true)) m_nil)) (m_c (.int 1)))) (m_not (m_tb (m_app (f_isE c.K ea ec) (m_cons (m_var 1) (m_cons (m_c (.ty "ValueError")) m_nil))))))
 (ms_ret (m_c (.str "several")))
 ms_pass)
 (ms_ret (m_op f_ix (m_app f_lst (m_cons (m_c (.str "width")) (m_cons (m_c (.str "looks")) (m_cons (m_c (.str "cycle")) (m_cons (m_c (.str "rate")) (m_cons (m_c (.str "reading")) (m_cons (m_c (.str "line")) m_nil))))))) (m_mL f_index (m_var 2) (m_cons (m_c (.bl true)) m_nil)))))))
noncomputable def b_law_word (c : Cs) (lams : Nat → Nat → IH → Res IV) : Env → IH → RS := (ms_try 1 (fun cl => PySem.W.exmOne c.K (.ref cl) (.ref c.KernelError)) (tb_law_word_1 c lams)
 (fun ea ec => (ts_law_word_1 c lams ea ec)))
noncomputable def b_is_whole (c : Cs) : Env → IH → RS := (ms_ret (m_andV (m_app f_isi (m_cons (m_var 0) (m_cons (m_c (.ty "int")) m_nil))) (m_andV (m_notV (m_app f_isi (m_cons (m_var 0) (m_cons (m_c (.ty "bool")) m_nil)))) (m_orV (m_op f_isN (m_var 1) (m_c .non)) (m_op f_ge (m_var 0) (m_var 1))))))
noncomputable def m_is_whole (c : Cs) : List IV → IH → Res IV := defRun 2 (b_is_whole c)
noncomputable def b_power (c : Cs) : Env → IH → RS := (ms_ret (m_op f_shl (m_c (.int 1)) (m_var 0)))
noncomputable def m_power (c : Cs) : List IV → IH → Res IV := defRun 1 (b_power c)
noncomputable def lb_best_rate_1 (c : Cs) : Env → IH → RS := (ms_seq (ms_set (g_nm 4) (m_op f_fdiv (m_op f_shl (m_var 1) (m_var 3)) (m_var 0)))
 (ms_if (m_and (m_tb (m_op f_ge (m_var 4) (m_c (.int 1)))) (m_tb (m_op f_lt (m_op f_mulA (m_var 4) (m_var 2)) (m_app (f_call 1 [] (m_power c)) (m_cons (m_c (.int 64)) m_nil)))))
 (ms_ret (m_app f_tup (m_cons (m_var 4) (m_cons (m_var 3) m_nil))))
 ms_pass))
noncomputable def b_best_rate (c : Cs) : Env → IH → RS := (ms_seq (ms_if (m_or (m_not (m_tb (m_app (f_call 2 [] (m_is_whole c)) (m_cons (m_var 0) (m_cons (m_c (.int 1)) m_nil))))) (m_or (m_not (m_tb (m_app (f_call 2 [] (m_is_whole c)) (m_cons (m_var 1) (m_cons (m_c (.int 1)) m_nil))))) (m_not (m_tb (m_app (f_call 2 [] (m_is_whole c)) (m_cons (m_var 2) (m_cons (m_c (.int 1)) m_nil)))))))
 (ms_raise c.NoRate)
 ms_pass)
 (ms_seq (ms_for (mi_rng3 (m_cons (m_c (.int 32)) (m_cons (m_un f_neg (m_c (.int 1))) (m_cons (m_un f_neg (m_c (.int 1))) m_nil)))) (g_nm 3)
 (lb_best_rate_1 c))
 (ms_ret (m_c .non))))
noncomputable def m_best_rate (c : Cs) : List IV → IH → Res IV := defRun 5 (b_best_rate c)
noncomputable def b_is_mult (c : Cs) : Env → IH → RS := (ms_ret (m_andV (m_app (f_call 2 [] (m_is_whole c)) (m_cons (m_var 0) (m_cons (m_c (.int 1)) m_nil))) (m_op f_lt (m_var 0) (m_app (f_call 1 [] (m_power c)) (m_cons (m_c (.int 64)) m_nil)))))
noncomputable def m_is_mult (c : Cs) : List IV → IH → Res IV := defRun 1 (b_is_mult c)
noncomputable def b_is_shift (c : Cs) : Env → IH → RS := (ms_ret (m_andV (m_app (f_call 2 [] (m_is_whole c)) (m_cons (m_var 0) (m_cons (m_c (.int 0)) m_nil))) (m_op f_le (m_var 0) (m_c (.int 64)))))
noncomputable def m_is_shift (c : Cs) : List IV → IH → Res IV := defRun 1 (b_is_shift c)
noncomputable def b_check_rate (c : Cs) : Env → IH → RS := (ms_if (m_or (m_not (m_tb (m_app f_isi (m_cons (m_var 0) (m_cons (m_c (.ty "tuple")) m_nil))))) (m_or (m_tb (m_op f_ne (m_app f_len (m_cons (m_var 0) m_nil)) (m_c (.int 2)))) (m_or (m_not (m_tb (m_app (f_call 1 [] (m_is_mult c)) (m_cons (m_op f_ix (m_var 0) (m_c (.int 0))) m_nil)))) (m_not (m_tb (m_app (f_call 1 [] (m_is_shift c)) (m_cons (m_op f_ix (m_var 0) (m_c (.int 1))) m_nil)))))))
 (ms_raise c.NoRate)
 ms_pass)
noncomputable def m_check_rate (c : Cs) : List IV → IH → Res IV := defRun 1 (b_check_rate c)
noncomputable def b_round_up (c : Cs) : Env → IH → RS := (ms_ret (m_op f_sub (m_c (.int 0)) (m_op f_fdiv (m_op f_sub (m_c (.int 0)) (m_var 0)) (m_var 1))))
noncomputable def m_round_up (c : Cs) : List IV → IH → Res IV := defRun 2 (b_round_up c)
noncomputable def b_first_cycle (c : Cs) : Env → IH → RS := (ms_seq (ms_expr (m_app (f_call 1 [] (m_check_rate c)) (m_cons (m_var 0) m_nil)))
 (ms_seq (ms_if (m_not (m_tb (m_app (f_call 2 [] (m_is_whole c)) (m_cons (m_var 1) (m_cons (m_c (.int 0)) m_nil)))))
 (ms_raise c.NoReading)
 ms_pass)
 (ms_ret (m_app (f_call 2 [] (m_round_up c)) (m_cons (m_op f_shl (m_var 1) (m_op f_ix (m_var 0) (m_c (.int 1)))) (m_cons (m_op f_ix (m_var 0) (m_c (.int 0))) m_nil))))))
noncomputable def m_first_cycle (c : Cs) : List IV → IH → Res IV := defRun 2 (b_first_cycle c)
noncomputable def b_check_width (c : Cs) : Env → IH → RS := (ms_if (m_or (m_not (m_tb (m_app (f_call 2 [] (m_is_whole c)) (m_cons (m_var 0) (m_cons (m_c (.int 1)) m_nil))))) (m_tb (m_op f_gt (m_var 0) (m_c (.int 64)))))
 (ms_raise c.NoWidth)
 ms_pass)
noncomputable def m_check_width (c : Cs) : List IV → IH → Res IV := defRun 1 (b_check_width c)
noncomputable def b_longest_span (c : Cs) : Env → IH → RS := (ms_seq (ms_expr (m_app (f_call 1 [] (m_check_width c)) (m_cons (m_var 0) m_nil)))
 (ms_seq (ms_expr (m_app (f_call 1 [] (m_check_rate c)) (m_cons (m_var 1) m_nil)))
 (ms_ret (m_app f_min2 (m_cons (m_op f_sub (m_app (f_call 1 [] (m_power c)) (m_cons (m_var 0) m_nil)) (m_c (.int 1))) (m_cons (m_op f_fdiv (m_op f_sub (m_app (f_call 1 [] (m_power c)) (m_cons (m_c (.int 64)) m_nil)) (m_c (.int 1))) (m_op f_ix (m_var 1) (m_c (.int 0)))) m_nil))))))
noncomputable def m_longest_span (c : Cs) : List IV → IH → Res IV := defRun 2 (b_longest_span c)
noncomputable def b_check_cycle (c : Cs) : Env → IH → RS := (ms_if (m_not (m_tb (m_app (f_call 2 [] (m_is_whole c)) (m_cons (m_var 0) (m_cons (m_var 1) m_nil)))))
 (ms_raise c.NoCycle)
 ms_pass)
noncomputable def m_check_cycle (c : Cs) : List IV → IH → Res IV := defRun 2 (b_check_cycle c)
noncomputable def b_rate_reading (c : Cs) : Env → IH → RS := (ms_seq (ms_expr (m_app (f_call 1 [] (m_check_rate c)) (m_cons (m_var 0) m_nil)))
 (ms_seq (ms_expr (m_app (f_call 2 [(.int 0)] (m_check_cycle c)) (m_cons (m_var 1) m_nil)))
 (ms_ret (m_op f_shr (m_op f_mulA (m_var 1) (m_op f_ix (m_var 0) (m_c (.int 0)))) (m_op f_ix (m_var 0) (m_c (.int 1)))))))
noncomputable def m_rate_reading (c : Cs) : List IV → IH → Res IV := defRun 2 (b_rate_reading c)
noncomputable def b_is_seen (c : Cs) : Env → IH → RS := (ms_ret (m_andV (m_app f_isi (m_cons (m_var 0) (m_cons (m_c (.ty "tuple")) m_nil))) (m_andV (m_op f_eq (m_app f_len (m_cons (m_var 0) m_nil)) (m_c (.int 2))) (m_andV (m_app (f_call 2 [] (m_is_whole c)) (m_cons (m_op f_ix (m_var 0) (m_c (.int 0))) (m_cons (m_c (.int 0)) m_nil))) (m_app (f_call 2 [.non] (m_is_whole c)) (m_cons (m_op f_ix (m_var 0) (m_c (.int 1))) m_nil))))))
noncomputable def m_is_seen (c : Cs) : List IV → IH → Res IV := defRun 1 (b_is_seen c)
noncomputable def b_narrowed (c : Cs) : Env → IH → RS := (ms_seq (ms_set (g_lst 2 (g_cons (g_tup 2 (g_cons (g_nm 5) (g_cons (g_nm 6) g_nil))) (g_cons (g_tup 2 (g_cons (g_nm 7) (g_cons (g_nm 8) g_nil))) g_nil))) (m_app f_sortP (m_cons (m_app f_lst (m_cons (m_var 3) (m_cons (m_var 4) m_nil))) m_nil)))
 (ms_seq (ms_par 9 10 (m_cons (m_op f_sub (m_var 7) (m_var 5)) (m_cons (m_op f_sub (m_var 8) (m_var 6)) m_nil)))
 (ms_seq (ms_if (m_tb (m_op f_eq (m_var 9) (m_c (.int 0))))
 (ms_ret (m_app f_tup (m_cons (m_var 1) (m_cons (m_if (m_tb (m_op f_eq (m_var 10) (m_c (.int 0)))) (m_var 2) (m_c (.int 0))) m_nil))))
 ms_pass)
 (ms_seq (ms_set (g_nm 11) (m_op f_fdiv (m_op f_sub (m_op f_shl (m_op f_add (m_var 10) (m_c (.int 1))) (m_var 0)) (m_c (.int 1))) (m_var 9)))
 (ms_seq (ms_set (g_nm 1) (m_app f_max2 (m_cons (m_var 1) (m_cons (m_app (f_call 2 [] (m_round_up c)) (m_cons (m_op f_add (m_op f_shl (m_op f_sub (m_var 10) (m_c (.int 1))) (m_var 0)) (m_c (.int 1))) (m_cons (m_var 9) m_nil))) m_nil))))
 (ms_ret (m_app f_tup (m_cons (m_var 1) (m_cons (m_if (m_tb (m_op f_isN (m_var 2) (m_c .non))) (m_var 11) (m_app f_min2 (m_cons (m_var 2) (m_cons (m_var 11) m_nil)))) m_nil)))))))))
noncomputable def m_narrowed (c : Cs) : List IV → IH → Res IV := defRun 12 (b_narrowed c)
noncomputable def le_rates_seen_1 (c : Cs) : Env → IH → Res IV := (m_app (f_call 1 [] (m_is_seen c)) (m_cons (m_var 5) m_nil))
noncomputable def lc_rates_seen_1 (c : Cs) : Env → IH → Res IV := m_lc [5] (mi_lst (m_var 1)) (g_nm 5) n_yes (le_rates_seen_1 c)
noncomputable def lb_rates_seen_1 (c : Cs) : Env → IH → RS := (ms_set (g_tup 2 (g_cons (g_nm 2) (g_cons (g_nm 3) g_nil))) (m_app (f_call 5 [] (m_narrowed c)) (m_cons (m_var 0) (m_cons (m_var 2) (m_cons (m_var 3) (m_cons (m_var 6) (m_cons (m_var 5) m_nil)))))))
noncomputable def lb_rates_seen_2 (c : Cs) : Env → IH → RS := (ms_seq (ms_for (mi_lst (m_sl (m_var 1) m_none (m_some (m_var 4)))) (g_nm 6)
 (lb_rates_seen_1 c))
 (ms_if (m_and (m_tb (m_op f_notN (m_var 3) (m_c .non))) (m_tb (m_op f_gt (m_var 2) (m_var 3))))
 (ms_ret (m_app f_tup (m_cons (m_c (.str "none")) (m_cons (m_op f_add (m_var 4) (m_c (.int 1))) m_nil))))
 ms_pass))
noncomputable def b_rates_seen (c : Cs) : Env → IH → RS := (ms_seq (ms_if (m_not (m_tb (m_app (f_call 1 [] (m_is_shift c)) (m_cons (m_var 0) m_nil))))
 (ms_raise c.NoRate)
 ms_pass)
 (ms_seq (ms_if (m_or (m_not (m_tb (m_app f_isi (m_cons (m_var 1) (m_cons (m_c (.ty "list")) m_nil))))) (m_or (m_tb (m_op f_eq (m_var 1) (m_app f_lst m_nil))) (m_not (m_tb (m_app f_all (m_cons (lc_rates_seen_1 c) m_nil))))))
 (ms_raise c.NoReading)
 ms_pass)
 (ms_seq (ms_set (g_tup 2 (g_cons (g_nm 2) (g_cons (g_nm 3) g_nil))) (m_app f_tup (m_cons (m_c (.int 1)) (m_cons (m_c .non) m_nil))))
 (ms_seq (ms_for (mi_enm (m_cons (m_var 1) m_nil)) (g_tup 2 (g_cons (g_nm 4) (g_cons (g_nm 5) g_nil)))
 (lb_rates_seen_2 c))
 (ms_ret (m_app f_tup (m_cons (m_c (.str "rates")) (m_cons (m_var 2) (m_cons (m_var 3) m_nil)))))))))
noncomputable def m_rates_seen (c : Cs) : List IV → IH → Res IV := defRun 7 (b_rates_seen c)
noncomputable def ll_law_all_refused_1 (c : Cs) (e0 : Nat) : Env → IH → Res IV := (m_app (f_call 2 [] (m_rate_reading c)) (m_cons (m_var 2) (m_cons (m_var 3) m_nil)))
noncomputable def ll_law_all_refused_2 (c : Cs) (e0 : Nat) : Env → IH → Res IV := (m_app (f_call 2 [] (m_first_cycle c)) (m_cons (m_var 2) (m_cons (m_var 8) m_nil)))
noncomputable def ll_law_all_refused_3 (c : Cs) (e0 : Nat) : Env → IH → Res IV := (m_app (f_call 2 [] (m_longest_span c)) (m_cons (m_c (.int 64)) (m_cons (m_var 2) m_nil)))
noncomputable def ll_law_all_refused_4 (c : Cs) (e0 : Nat) : Env → IH → Res IV := (m_app (f_call 3 [] (m_best_rate c)) (m_cons (m_var 4) (m_cons (m_var 4) (m_cons (m_var 4) m_nil))))
noncomputable def ll_law_all_refused_5 (c : Cs) (e0 : Nat) : Env → IH → Res IV := (m_app (f_call 3 [] (m_best_rate c)) (m_cons (m_c (.int 5)) (m_cons (m_var 4) (m_cons (m_c (.int 7)) m_nil))))
noncomputable def ll_law_all_refused_6 (c : Cs) (e0 : Nat) : Env → IH → Res IV := (m_app (f_call 3 [] (m_best_rate c)) (m_cons (m_c (.int 5)) (m_cons (m_c (.int 6)) (m_cons (m_var 4) m_nil))))
noncomputable def ll_law_all_refused_7 (c : Cs) (e0 : Nat) : Env → IH → Res IV := (m_app (f_call 2 [] (m_rates_seen c)) (m_cons (m_var 7) (m_cons (m_var 5) m_nil)))
noncomputable def ll_law_all_refused_8 (c : Cs) (e0 : Nat) : Env → IH → Res IV := (m_app (f_call 2 [] (m_rate_reading c)) (m_cons (m_var 1) (m_cons (m_var 3) m_nil)))
noncomputable def ll_law_all_refused_9 (c : Cs) (e0 : Nat) : Env → IH → Res IV := (m_app (f_call 2 [] (m_first_cycle c)) (m_cons (m_var 1) (m_cons (m_var 3) m_nil)))
noncomputable def ll_law_all_refused_10 (c : Cs) (e0 : Nat) : Env → IH → Res IV := (m_app (f_call 2 [] (m_longest_span c)) (m_cons (m_var 6) (m_cons (m_var 2) m_nil)))
noncomputable def ll_law_all_refused_11 (c : Cs) (e0 : Nat) : Env → IH → Res IV := (m_app (f_call 2 [] (m_rates_seen c)) (m_cons (m_app (f_call 2 [] (m_law_next c)) (m_cons (m_var 0) (m_cons (m_c (.int 65)) m_nil))) (m_cons (m_var 5) m_nil)))
noncomputable def lams_law_all_refused (c : Cs) (e0 : Nat) : Nat → Env → IH → Res IV
  | 0 => ll_law_all_refused_1 c e0
  | 1 => ll_law_all_refused_2 c e0
  | 2 => ll_law_all_refused_3 c e0
  | 3 => ll_law_all_refused_4 c e0
  | 4 => ll_law_all_refused_5 c e0
  | 5 => ll_law_all_refused_6 c e0
  | 6 => ll_law_all_refused_7 c e0
  | 7 => ll_law_all_refused_8 c e0
  | 8 => ll_law_all_refused_9 c e0
  | 9 => ll_law_all_refused_10 c e0
  | 10 => ll_law_all_refused_11 c e0
  | _ => fun _ _ => .stuck
noncomputable def le_law_all_refused_1 (c : Cs) (e0 : Nat) : Env → IH → Res IV := (m_callV [10] 1 3 e0 (b_law_word c) (lams_law_all_refused c e0) m_nil (m_var 10))
noncomputable def lc_law_all_refused_1 (c : Cs) (e0 : Nat) : Env → IH → Res IV := m_lc [10] (mi_lst (m_var 9)) (g_nm 10) n_yes (le_law_all_refused_1 c e0)
noncomputable def le_law_all_refused_2 (c : Cs) (e0 : Nat) : Env → IH → Res IV := (m_callV [10] 1 3 e0 (b_law_word c) (lams_law_all_refused c e0) m_nil (m_var 10))
noncomputable def lc_law_all_refused_2 (c : Cs) (e0 : Nat) : Env → IH → Res IV := m_lc [10] (mi_lst (m_var 9)) (g_nm 10) n_yes (le_law_all_refused_2 c e0)
noncomputable def b_law_all_refused (c : Cs) (e0 : Nat) : Env → IH → RS := (ms_seq (ms_set (g_tup 2 (g_cons (g_nm 1) (g_cons (g_nm 2) g_nil))) (m_app f_tup (m_cons (m_app f_tup (m_cons (m_op f_add (m_c (.int 1)) (m_app (f_call 2 [] (m_law_next c)) (m_cons (m_var 0) (m_cons (m_c (.int 99)) m_nil)))) (m_cons (m_app (f_call 2 [] (m_law_next c)) (m_cons (m_var 0) (m_cons (m_c (.int 65)) m_nil))) m_nil))) (m_cons (m_app (f_call 1 [] (m_law_odd_pair c)) (m_cons (m_var 0) m_nil)) m_nil))))
 (ms_seq (ms_set (g_tup 3 (g_cons (g_nm 3) (g_cons (g_nm 4) (g_cons (g_nm 5) g_nil)))) (m_app f_tup (m_cons (m_app (f_call 2 [] (m_law_odd c)) (m_cons (m_var 0) (m_cons (m_c (.int 0)) m_nil))) (m_cons (m_app (f_call 2 [] (m_law_odd c)) (m_cons (m_var 0) (m_cons (m_c (.int 1)) m_nil))) (m_cons (m_app (f_call 1 [] (m_law_odd_rows c)) (m_cons (m_var 0) m_nil)) m_nil)))))
 (ms_seq (ms_set (g_tup 2 (g_cons (g_nm 6) (g_cons (g_nm 7) g_nil))) (m_app f_tup (m_cons (m_op f_ix (m_app f_lst (m_cons (m_var 4) (m_cons (m_c (.int 65)) (m_cons (m_op f_pow (m_c (.int 10)) (m_c (.int 30))) m_nil)))) (m_app (f_call 2 [] (m_law_next c)) (m_cons (m_var 0) (m_cons (m_c (.int 3)) m_nil)))) (m_cons (m_op f_ix (m_app f_lst (m_cons (m_var 3) (m_cons (m_c (.int 65)) (m_cons (m_op f_pow (m_c (.int 10)) (m_c (.int 30))) m_nil)))) (m_app (f_call 2 [] (m_law_next c)) (m_cons (m_var 0) (m_cons (m_c (.int 3)) m_nil)))) m_nil))))
 (ms_seq (ms_set (g_nm 8) (m_op f_ix (m_app f_lst (m_cons (m_var 3) (m_cons (m_c (.bl true)) (m_cons (m_c .non) (m_cons (m_c (.str "1")) (m_cons (m_app f_lst (m_cons (m_c (.int 1)) m_nil)) m_nil)))))) (m_op f_add (m_c (.int 1)) (m_app (f_call 2 [] (m_law_next c)) (m_cons (m_var 0) (m_cons (m_c (.int 4)) m_nil))))))
 (ms_seq (ms_set (g_nm 9) (m_app f_lst (m_cons (m_lam e0 0) m_nil)))
 (ms_seq (ms_expr (m_mL f_append (m_var 9) (m_cons (m_lam e0 1) m_nil)))
 (ms_seq (ms_expr (m_mL f_append (m_var 9) (m_cons (m_lam e0 2) m_nil)))
 (ms_seq (ms_expr (m_mL f_append (m_var 9) (m_cons (m_lam e0 3) m_nil)))
 (ms_seq (ms_expr (m_mL f_append (m_var 9) (m_cons (m_lam e0 4) m_nil)))
 (ms_seq (ms_expr (m_mL f_append (m_var 9) (m_cons (m_lam e0 5) m_nil)))
 (ms_seq (ms_expr (m_mL f_append (m_var 9) (m_cons (m_lam e0 6) m_nil)))
 (ms_seq (ms_if (m_tb (m_op f_ne (lc_law_all_refused_1 c e0) (m_op f_mulA (m_app f_lst (m_cons (m_c (.str "rate")) m_nil)) (m_c (.int 7)))))
 (ms_ret (m_c (.bl false)))
 ms_pass)
 (ms_seq (ms_set (g_nm 9) (m_app f_lst (m_cons (m_lam e0 7) m_nil)))
 (ms_seq (ms_expr (m_mL f_append (m_var 9) (m_cons (m_lam e0 8) m_nil)))
 (ms_seq (ms_expr (m_mL f_append (m_var 9) (m_cons (m_lam e0 9) m_nil)))
 (ms_seq (ms_expr (m_mL f_append (m_var 9) (m_cons (m_lam e0 10) m_nil)))
 (ms_ret (m_op f_eq (lc_law_all_refused_2 c e0) (m_app f_lst (m_cons (m_c (.str "cycle")) (m_cons (m_c (.str "reading")) (m_cons (m_c (.str "width")) (m_cons (m_c (.str "reading")) m_nil)))))))))))))))))))))))
noncomputable def m_law_all_refused (c : Cs) : List IV → IH → Res IV := defRunF 11 (b_law_all_refused c)
noncomputable def le_law_named_1 (c : Cs) : Env → IH → Res IV := (m_app f_tup (m_cons (m_app (f_call 2 [] (m_law_next c)) (m_cons (m_var 0) (m_cons (m_c (.int 9)) m_nil))) (m_cons (m_app (f_call 2 [] (m_law_next c)) (m_cons (m_var 0) (m_cons (m_c (.int 9)) m_nil))) m_nil)))
noncomputable def lc_law_named_1 (c : Cs) : Env → IH → Res IV := m_lc [6] (mi_rng1 (m_cons (m_op f_add (m_c (.int 1)) (m_app (f_call 2 [] (m_law_next c)) (m_cons (m_var 0) (m_cons (m_c (.int 4)) m_nil)))) m_nil)) (g_nm 6) n_yes (le_law_named_1 c)
noncomputable def le_law_named_2 (c : Cs) : Env → IH → Res IV := (m_op f_eq (m_var 7) (m_var 8))
noncomputable def lc_law_named_2 (c : Cs) : Env → IH → Res IV := m_lc [7, 8] (mi_lst (m_var 5)) (g_tup 2 (g_cons (g_nm 7) (g_cons (g_nm 8) g_nil))) n_yes (le_law_named_2 c)
noncomputable def b_law_named (c : Cs) : Env → IH → RS := (ms_seq (ms_par 1 2 (m_cons (m_app f_tup (m_cons (m_op f_add (m_c (.int 1)) (m_app (f_call 2 [] (m_law_next c)) (m_cons (m_var 0) (m_cons (m_c (.int 99)) m_nil)))) (m_cons (m_app (f_call 2 [] (m_law_next c)) (m_cons (m_var 0) (m_cons (m_c (.int 65)) m_nil))) m_nil))) (m_cons (m_app (f_call 2 [] (m_law_next c)) (m_cons (m_var 0) (m_cons (m_op f_pow (m_c (.int 10)) (m_c (.int 9))) m_nil))) m_nil)))
 (ms_seq (ms_set (g_nm 3) (lc_law_named_1 c))
 (ms_seq (ms_set (g_nm 4) (m_app f_list (m_cons (m_var 3) m_nil)))
 (ms_seq (ms_set (g_nm 5) (m_app f_lst (m_cons (m_app f_tup (m_cons (m_app (f_callK 2 2 (pick [1, 0]) (m_rate_reading c)) (m_cons (m_var 2) (m_cons (m_var 1) m_nil))) (m_cons (m_app (f_call 2 [] (m_rate_reading c)) (m_cons (m_var 1) (m_cons (m_var 2) m_nil))) m_nil))) m_nil)))
 (ms_seq (ms_expr (m_mL f_append (m_var 5) (m_cons (m_app f_tup (m_cons (m_app (f_callK 2 2 (pick [1, 0]) (m_first_cycle c)) (m_cons (m_var 2) (m_cons (m_var 1) m_nil))) (m_cons (m_app (f_call 2 [] (m_first_cycle c)) (m_cons (m_var 1) (m_cons (m_var 2) m_nil))) m_nil))) m_nil)))
 (ms_seq (ms_expr (m_mL f_append (m_var 5) (m_cons (m_app f_tup (m_cons (m_app (f_callK 3 3 (pick [2, 1, 0]) (m_best_rate c)) (m_cons (m_op f_add (m_var 2) (m_c (.int 1))) (m_cons (m_c (.int 7)) (m_cons (m_c (.int 3)) m_nil)))) (m_cons (m_app (f_call 3 [] (m_best_rate c)) (m_cons (m_c (.int 3)) (m_cons (m_c (.int 7)) (m_cons (m_op f_add (m_var 2) (m_c (.int 1))) m_nil)))) m_nil))) m_nil)))
 (ms_seq (ms_expr (m_mL f_append (m_var 5) (m_cons (m_app f_tup (m_cons (m_app (f_callK 2 2 (pick [1, 0]) (m_longest_span c)) (m_cons (m_var 1) (m_cons (m_c (.int 9)) m_nil))) (m_cons (m_app (f_call 2 [] (m_longest_span c)) (m_cons (m_c (.int 9)) (m_cons (m_var 1) m_nil))) m_nil))) m_nil)))
 (ms_seq (ms_expr (m_mL f_append (m_var 5) (m_cons (m_app f_tup (m_cons (m_app (f_callK 2 2 (pick [1, 0]) (m_rates_seen c)) (m_cons (m_var 3) (m_cons (m_c (.int 2)) m_nil))) (m_cons (m_app (f_call 2 [] (m_rates_seen c)) (m_cons (m_c (.int 2)) (m_cons (m_var 4) m_nil))) m_nil))) m_nil)))
 (ms_ret (m_andV (m_app f_all (m_cons (lc_law_named_2 c) m_nil)) (m_op f_eq (m_var 3) (m_var 4))))))))))))
noncomputable def m_law_named (c : Cs) : List IV → IH → Res IV := defRun 9 (b_law_named c)
noncomputable def b_law_cell_at (c : Cs) : Env → IH → RS := (ms_seq (ms_if (m_tb (m_op f_lt (m_var 1) (m_app f_len (m_cons (m_var 0) m_nil))))
 (ms_ret (m_op f_ix (m_var 0) (m_var 1)))
 ms_pass)
 (ms_ret (m_c (.int 0))))
noncomputable def m_law_cell_at (c : Cs) : List IV → IH → Res IV := defRun 2 (b_law_cell_at c)
noncomputable def b_law_source (c : Cs) : Env → IH → RS := (ms_seq (ms_if (m_tb (m_op f_lt (m_var 1) (m_app f_len (m_cons (m_var 0) m_nil))))
 (ms_ret (m_app f_lst (m_cons (m_op f_ix (m_var 0) (m_var 1)) (m_cons (m_op f_ix (m_var 0) (m_var 1)) (m_cons (m_c (.int 0)) m_nil)))))
 ms_pass)
 (ms_seq (ms_set (g_nm 2) (m_app (f_call 2 [] (m_law_mixed c)) (m_cons (m_app (f_call 2 [] (m_law_cell_at c)) (m_cons (m_var 0) (m_cons (m_c (.int 0)) m_nil))) (m_cons (m_op f_add (m_c (.int 1000)) (m_var 1)) m_nil))))
 (ms_ret (m_app f_lst (m_cons (m_var 2) (m_cons (m_var 2) (m_cons (m_c (.int 0)) m_nil)))))))
noncomputable def m_law_source (c : Cs) : List IV → IH → Res IV := defRun 3 (b_law_source c)
noncomputable def lb_law_1 (c : Cs) : Env → IH → RS := (ms_if (m_or (m_not (m_tb (m_app (f_call 1 [] (m_law_all_refused c)) (m_cons (m_var 2) m_nil)))) (m_not (m_tb (m_app (f_call 1 [] (m_law_named c)) (m_cons (m_var 2) m_nil)))))
 (ms_ret (m_c (.bl false)))
 ms_pass)
noncomputable def lb_law_2 (c : Cs) : Env → IH → RS := (ms_seq (ms_set (g_nm 2) (m_app (f_call 2 [] (m_law_source c)) (m_cons (m_var 0) (m_cons (m_var 1) m_nil))))
 (ms_for (mi_rng1 (m_cons (m_c (.int 4)) m_nil)) (g_nm 3)
 (lb_law_1 c)))
noncomputable def b_law (c : Cs) : Env → IH → RS := (ms_seq (ms_for (mi_rng1 (m_cons (m_app f_min2 (m_cons (m_c (.int 4)) (m_cons (m_app f_max2 (m_cons (m_c (.int 1)) (m_cons (m_app f_len (m_cons (m_var 0) m_nil)) m_nil))) m_nil))) m_nil)) (g_nm 1)
 (lb_law_2 c))
 (ms_ret (m_c (.bl true))))
noncomputable def m_law (c : Cs) : List IV → IH → Res IV := defRun 4 (b_law c)
structure CsOk (c : Cs) : Prop where
  xm_NoCycle_KernelError : PySem.W.exmOne c.K (.ref c.NoCycle) (.ref c.KernelError) = some true
  xi_NoCycle_NoCycle : PySem.W.kitOne c.K (.ref c.NoCycle) (.ref c.NoCycle) = some true
  xi_NoCycle_NoLine : PySem.W.kitOne c.K (.ref c.NoCycle) (.ref c.NoLine) = some false
  xi_NoCycle_NoLooks : PySem.W.kitOne c.K (.ref c.NoCycle) (.ref c.NoLooks) = some false
  xi_NoCycle_NoRate : PySem.W.kitOne c.K (.ref c.NoCycle) (.ref c.NoRate) = some false
  xi_NoCycle_NoReading : PySem.W.kitOne c.K (.ref c.NoCycle) (.ref c.NoReading) = some false
  xi_NoCycle_NoWidth : PySem.W.kitOne c.K (.ref c.NoCycle) (.ref c.NoWidth) = some false
  xi_NoCycle_ValueError : PySem.W.kitOne c.K (.ref c.NoCycle) (.type "ValueError") = some true
  xc_NoCycle : ExcC c.K c.NoCycle
  xm_NoRate_KernelError : PySem.W.exmOne c.K (.ref c.NoRate) (.ref c.KernelError) = some true
  xi_NoRate_NoCycle : PySem.W.kitOne c.K (.ref c.NoRate) (.ref c.NoCycle) = some false
  xi_NoRate_NoLine : PySem.W.kitOne c.K (.ref c.NoRate) (.ref c.NoLine) = some false
  xi_NoRate_NoLooks : PySem.W.kitOne c.K (.ref c.NoRate) (.ref c.NoLooks) = some false
  xi_NoRate_NoRate : PySem.W.kitOne c.K (.ref c.NoRate) (.ref c.NoRate) = some true
  xi_NoRate_NoReading : PySem.W.kitOne c.K (.ref c.NoRate) (.ref c.NoReading) = some false
  xi_NoRate_NoWidth : PySem.W.kitOne c.K (.ref c.NoRate) (.ref c.NoWidth) = some false
  xi_NoRate_ValueError : PySem.W.kitOne c.K (.ref c.NoRate) (.type "ValueError") = some true
  xc_NoRate : ExcC c.K c.NoRate
  xm_NoReading_KernelError : PySem.W.exmOne c.K (.ref c.NoReading) (.ref c.KernelError) = some true
  xi_NoReading_NoCycle : PySem.W.kitOne c.K (.ref c.NoReading) (.ref c.NoCycle) = some false
  xi_NoReading_NoLine : PySem.W.kitOne c.K (.ref c.NoReading) (.ref c.NoLine) = some false
  xi_NoReading_NoLooks : PySem.W.kitOne c.K (.ref c.NoReading) (.ref c.NoLooks) = some false
  xi_NoReading_NoRate : PySem.W.kitOne c.K (.ref c.NoReading) (.ref c.NoRate) = some false
  xi_NoReading_NoReading : PySem.W.kitOne c.K (.ref c.NoReading) (.ref c.NoReading) = some true
  xi_NoReading_NoWidth : PySem.W.kitOne c.K (.ref c.NoReading) (.ref c.NoWidth) = some false
  xi_NoReading_ValueError : PySem.W.kitOne c.K (.ref c.NoReading) (.type "ValueError") = some true
  xc_NoReading : ExcC c.K c.NoReading
  xm_NoWidth_KernelError : PySem.W.exmOne c.K (.ref c.NoWidth) (.ref c.KernelError) = some true
  xi_NoWidth_NoCycle : PySem.W.kitOne c.K (.ref c.NoWidth) (.ref c.NoCycle) = some false
  xi_NoWidth_NoLine : PySem.W.kitOne c.K (.ref c.NoWidth) (.ref c.NoLine) = some false
  xi_NoWidth_NoLooks : PySem.W.kitOne c.K (.ref c.NoWidth) (.ref c.NoLooks) = some false
  xi_NoWidth_NoRate : PySem.W.kitOne c.K (.ref c.NoWidth) (.ref c.NoRate) = some false
  xi_NoWidth_NoReading : PySem.W.kitOne c.K (.ref c.NoWidth) (.ref c.NoReading) = some false
  xi_NoWidth_NoWidth : PySem.W.kitOne c.K (.ref c.NoWidth) (.ref c.NoWidth) = some true
  xi_NoWidth_ValueError : PySem.W.kitOne c.K (.ref c.NoWidth) (.type "ValueError") = some true
  xc_NoWidth : ExcC c.K c.NoWidth
end L3
/-! L5: the draws that every law makes. -/
namespace L3
open PySem PySem.Spec PyProof.Rows L2
local macro_rules | `(tactic| walk_at "run") => `(tactic| simp only [m_op, m_var, m_c, m_un, m_nil, m_cons, m_if, m_and, m_or, m_not, m_tb, m_andV, m_orV, m_notV, m_app, m_sl, m_none, m_some, m_mL, m_mL0, ms_set, ms_expr, ms_ret, ms_retN, ms_pass, ms_brk, ms_cont, ms_if, ms_seq, ms_aug, ms_par, ms_setL, ms_raise,
  Res.bind_ok, Res.bind_exc, Res.bind_stuck, Res.stm_ok, Res.stm_exc, Res.stm_stuck, RS.seq_next, RS.seq_ret, RS.seq_brk, RS.seq_cont, RS.seq_exc, RS.seq_stuck, RS.out_ret, RS.out_next, RS.out_exc,
  startI_cons, startI_nil, rep_succ, rep_zero, List.getElem?_cons_zero, List.getElem?_cons_succ, List.set_cons_zero, List.set_cons_succ, defRun, g_nm, f_call, List.append_nil, List.nil_append, List.cons_append, List.length_cons, List.length_nil, if_true, if_false,
  a_int, a_add, a_addI, a_sub, a_neg, a_lt, a_le, a_gt, a_ge, a_max2, a_min2, a_abs, a_isN, a_notN, a_mul, a_mulI, a_fdiv, a_mod, a_shl, a_shr, a_pow, a_lst, a_tup, f_ix, f_len, f_list, f_append, f_setL, isLst, atI_0, atI_1, atI_2, atI_3, atI_4, atI_5, atI_6, atI_7, atI_8, atI_9, atI_10, atI_11, atI_12, ixN_30, ixN_31, ixN_32, Int.toNat_zero, Int.reduceToNat, Int.reduceNeg, xs_lst, xs_tup, xs_ro, xs_rot, isL_lst, isL_tup, isL_ro, isL_rot,
  Bool.false_eq_true, Bool.true_eq_false, Bool.not_true, Bool.not_false, decide_true, decide_false, ↓reduceIte, Int.reduceLT, Int.reduceLE, Nat.reduceLT, Nat.reduceLeDiff, Nat.reduceAdd, *])
/-- the script stands at 0 -/
def Scr (ns : List Int) (ih : IH) : Prop := ih[0]? = some (.ro (ns.map IV.int))
theorem atI_map {ns : List Int} {k : Nat} {i : Int} (hi : i = (k : Int)) (h : k < ns.length) : atI (ns.map IV.int) i = some (.int (ns.getD k 0)) := by
  refine atI_ok hi ?_
  rw [List.getElem?_map, List.getElem?_eq_getElem h, List.getD_eq_getElem?_getD, List.getElem?_eq_getElem h]
  rfl
theorem run_cell_at (c : Cs) {ns : List Int} {k : Nat} {ih : IH} (h : Scr ns ih) : m_law_cell_at c [.ref 0, .int (k : Int)] ih = .ok (.int (ns.getD k 0)) ih := by
  have e : (ns.map IV.int).length = ns.length := List.length_map _
  unfold m_law_cell_at b_law_cell_at
  have h' : ih[0]? = some (.ro (ns.map IV.int)) := h
  clear h
  by_cases hk : k < ns.length
  · have e1 : decide ((k : Int) < (ns.length : Int)) = true := decide_eq_true (by omega)
    have e2 := atI_map (i := (k : Int)) rfl hk
    clear hk
    walk_at "run"
  · have e1 : decide ((k : Int) < (ns.length : Int)) = false := decide_eq_false (by omega)
    have e2 : ns.getD k 0 = 0 := by
      rw [List.getD_eq_getElem?_getD, List.getElem?_eq_none (by omega)]
      rfl
    clear hk
    walk_at "run"
theorem lit {i : Int} (n : Nat) (h : i.natAbs < 2 ^ n := by decide) : B n i := h
theorem run_mixed (c : Cs) {a k : Int} (ih : IH) (ha : B 1100000 a) (hk : B 64 k) : ∃ v : Int, m_law_mixed c [.int a, .int k] ih = .ok (.int v) ih ∧ 0 ≤ v ∧ v < 2147483563 := by
  unfold m_law_mixed b_law_mixed
  have h1 : B 31 (a % 2147483629) := B.mod (by decide) (lit 31)
  have h2 : B 1100000 (a / 2147483629) := B.div ha (by decide)
  have h3 : B 1100016 (a / 2147483629 * 30011) := B.mul (m := 16) h2 (lit 16)
  have h4 : B 1100017 (a % 2147483629 + a / 2147483629 * 30011) := B.add (h1.mono (by decide)) h3
  have h5 : B 81 (69621 * k) := B.mul (n := 17) (lit 17) hk
  have h6 : B 1100018 (a % 2147483629 + a / 2147483629 * 30011 + 69621 * k) := B.add h4 (h5.mono (by decide))
  have h7 : B 1100019 (a % 2147483629 + a / 2147483629 * 30011 + 69621 * k + 1) := B.add h6 ((lit 1 : B 1 1).mono (by decide))
  have c1 : cDiv a 2147483629 = true := cDiv_of (by decide) (lit 32) (by decide) (by decide)
  have c2 : cMul (a / 2147483629) 30011 = true := B.cmul h2 (lit 16 : B 16 30011) (by decide)
  have c3 : cMul 69621 k = true := B.cmul (lit 17 : B 17 69621) hk (by decide)
  have c4 : cMul (a % 2147483629 + a / 2147483629 * 30011 + 69621 * k + 1) 48271 = true := B.cmul h7 (lit 16 : B 16 48271) (by decide)
  obtain ⟨x, ex⟩ : ∃ x, (a % 2147483629 + a / 2147483629 * 30011 + 69621 * k + 1) * 48271 % 2147483629 = x := ⟨_, rfl⟩
  have g1 : B 31 x := ex ▸ B.mod (by decide) (lit 31)
  have g2 : B 66 (x / 907 + 16831 + k) := B.add (B.add (n := 64) ((B.div g1 (by decide)).mono (by decide)) ((lit 15 : B 15 16831).mono (by decide))) (hk.mono (by decide))
  have c5 : cDiv x 907 = true := cDiv_of (by decide) (lit 10 : B 10 907) (by decide) (by decide)
  have c6 : cMul x (x / 907 + 16831 + k) = true := B.cmul g1 g2 (by decide)
  obtain ⟨y, ey⟩ : ∃ y, x * (x / 907 + 16831 + k) % 2147483587 = y := ⟨_, rfl⟩
  have k1 : B 31 y := ey ▸ B.mod (by decide) (lit 31)
  have k2 : B 32 (y / 1201 + 30011) := B.add ((B.div k1 (by decide)).mono (by decide)) ((lit 15 : B 15 30011).mono (by decide))
  have c7 : cDiv y 1201 = true := cDiv_of (by decide) (lit 11 : B 11 1201) (by decide) (by decide)
  have c8 : cMul y (y / 1201 + 30011) = true := B.cmul k1 k2 (by decide)
  clear h1 h2 h3 h4 h5 h6 h7 g1 g2 k1 k2 ha hk
  walk_at "run"
  exact ⟨_, rfl, Int.emod_nonneg _ (by decide), Int.emod_lt_of_pos _ (by decide)⟩
/-- a source of draws at p; so many draws were made off it at most -/
def Src0 (p : Nat) (m : Nat) (ih : IH) : Prop := ∃ a b k : Int, ih[p]? = some (.lst [.int a, .int b, .int k]) ∧ B 1100000 a ∧ B 1100000 b ∧ 0 ≤ k ∧ k ≤ (m : Int)
theorem Src0.mono {p m n : Nat} {ih : IH} (h : Src0 p m ih) (e : m ≤ n) : Src0 p n ih := by
  obtain ⟨a, b, k, h1, h2, h3, h4, h5⟩ := h
  exact ⟨a, b, k, h1, h2, h3, h4, by omega⟩
theorem Src0.ext {p m : Nat} {ih ih' : IH} (h : Src0 p m ih) (e : Ext ih ih') : Src0 p m ih' := by
  obtain ⟨a, b, k, h1, h2⟩ := h
  exact ⟨a, b, k, e _ _ h1, h2⟩
theorem B64 {k : Int} {m : Nat} (h0 : 0 ≤ k) (h : k ≤ (m : Int)) (hm : m ≤ 1000000000) : B 64 k := B.lt h0 (by omega)
theorem at3_0 {a b k : IV} : atI [a, b, k] (0 : Int) = some a := rfl
theorem at3_1 {a b k : IV} : atI [a, b, k] (1 : Int) = some b := rfl
theorem at3_2 {a b k : IV} : atI [a, b, k] (2 : Int) = some k := rfl
theorem run_next (c : Cs) {p m : Nat} {many : Int} {ih : IH} (h : Src0 p m ih) (hm : m ≤ 1000000) (h0 : 0 < many) (hb : B 8000 many) : ∃ (v : Int) (ih' : IH), m_law_next c [.ref p, .int many] ih = .ok (.int v) ih' ∧ 0 ≤ v ∧ v < many ∧ Src0 p (m + 1) ih' ∧ ExtP p ih ih' ∧ ih'.length = ih.length := by
  obtain ⟨a, b, k, h1, ha, hbb, hk0, hk⟩ := h
  unfold m_law_next b_law_next
  have p1 : cPow 10 18 = true := by decide
  by_cases hc : (10 : Int) ^ 18 ≤ a
  · refine ⟨a % many, ih.set p (.lst [.int (a / many), .int b, .int k]), ?_, Int.emod_nonneg _ (Int.ne_of_gt h0), Int.emod_lt_of_pos _ h0, ⟨_, b, k, get_set h1, B.div ha h0, hbb, hk0, by omega⟩, ExtP.set _ _ _, List.length_set⟩
    have c1 := decide_eq_true hc
    have c2 : cDiv a many = true := cDiv_of h0 hb (by decide) (by decide)
    clear hc hb ha hbb hk0 hk hm
    walk_at "run"
  · obtain ⟨v, e3, v0, v1⟩ := run_mixed c (ih.set p (MO.lst [.int a, .int b, .int (k + 1)])) hbb (B64 (k := k + 1) (m := m + 1) (by omega) (by omega) (by omega))
    have e2 := get_set (o := MO.lst [.int a, .int b, .int (k + 1)]) h1
    refine ⟨v % many, ih.set p (MO.lst [.int a, .int b, .int (k + 1)]), ?_, Int.emod_nonneg _ (Int.ne_of_gt h0), Int.emod_lt_of_pos _ h0, ⟨a, b, k + 1, e2, ha, hbb, by omega, by omega⟩, ExtP.set _ _ _, List.length_set⟩
    have c1 := decide_eq_false hc
    clear hc hb ha hbb hk0 hk hm v0 v1
    walk_at "run"
theorem run_source (c : Cs) {ns : List Int} {k : Nat} {ih : IH} (h : Scr ns ih) (hb : ∀ z ∈ ns, ibits z ≤ 1048576) (hk : k ≤ 1000000) : ∃ ih', m_law_source c [.ref 0, .int (k : Int)] ih = .ok (.ref ih.length) ih' ∧ Src0 ih.length 0 ih' ∧ Ext ih ih' ∧ ih'.length = ih.length + 1 := by
  have e : (MO.ro (ns.map IV.int)).xs.length = ns.length := List.length_map _
  have bz : ∀ j, B 1100000 (ns.getD j 0) := fun j => by
    by_cases hj : j < ns.length
    · rw [List.getD_eq_getElem?_getD, List.getElem?_eq_getElem hj]
      exact (B.of_ib (hb _ (List.getElem_mem hj))).mono (by decide)
    · rw [List.getD_eq_getElem?_getD, List.getElem?_eq_none (by omega)]
      exact lit 1100000 (Nat.two_pow_pos _)
  unfold m_law_source b_law_source
  have h' : ih[0]? = some (.ro (ns.map IV.int)) := h
  have e : (ns.map IV.int).length = ns.length := List.length_map _
  have l3 : ∀ a b k : IV, [a, b, k].length ≤ 100000 := fun _ _ _ => by simp
  by_cases hk2 : k < ns.length
  · refine ⟨_, ?_, ⟨_, _, 0, get_new _ _, bz k, bz k, by omega, by omega⟩, Ext.app _ _, by simp⟩
    have e1 : decide ((k : Int) < (ns.length : Int)) = true := decide_eq_true (by omega)
    have e2 := atI_map (i := (k : Int)) rfl hk2
    clear hk hk2 h bz hb
    walk_at "run"
  · obtain ⟨v, e3, v0, v1⟩ := run_mixed c (a := ns.getD 0 0) (k := 1000 + (k : Int)) ih (bz 0) (B.lt (by omega) (by omega))
    refine ⟨_, ?_, ⟨v, v, 0, get_new _ _, (B.lt (n := 40) v0 (by omega)).mono (by decide), (B.lt (n := 40) v0 (by omega)).mono (by decide), by omega, by omega⟩, Ext.app _ _, by simp⟩
    have e1 : decide ((k : Int) < (ns.length : Int)) = false := decide_eq_false (by omega)
    have e4 : m_law_cell_at c [.ref 0, .int 0] ih = .ok (.int (ns.getD 0 0)) ih := run_cell_at (k := 0) c h
    clear hk hk2 h bz hb v0 v1
    walk_at "run"
end L3
/-! D1: the draws, backwards. -/
namespace L3
open PySem PySem.Spec PyProof.Rows L2
theorem ExtP.fr {p : Nat} {a b : IH} (h : ExtP p a b) : Fr p a b := fun n l ne => by
  rw [List.getElem?_eq_getElem l]
  exact h n _ ne (List.getElem?_eq_getElem l)
theorem Src0.lt {p m : Nat} {ih : IH} (h : Src0 p m ih) : p < ih.length := by
  obtain ⟨_, _, _, g, _⟩ := h
  exact lt_of_get g
theorem Src0.fx {p m : Nat} {a b : IH} (h : Src0 p m a) (e : Fx a b) : Src0 p m b := h.ext e.ext
theorem Src0.app {p m : Nat} {a : IH} {o : MO} (h : Src0 p m a) : Src0 p m (a ++ [o]) := h.fx Fx.app
theorem Src0.set {p m n : Nat} {a : IH} {o : MO} (h : Src0 p m a) (e : n ≠ p) : Src0 p m (a.set n o) := by
  obtain ⟨x, y, k, g, r⟩ := h
  exact ⟨x, y, k, by rw [g_sne e]; exact g, r⟩
theorem w_next (c : Cs) {p m : Nat} {many : Int} {ih : IH} {Q : PQ IV} {E : EQ} (h : Src0 p m ih) (h0 : 0 < many) (hb : B 8000 many) (hm : m ≤ 1000000)
    (k : ∀ v ih', 0 ≤ v → v < many → Src0 p (m + 1) ih' → Fr p ih ih' → ih'.length = ih.length → Q (.int v) ih') : wp (m_law_next c [.ref p, .int many] ih) Q E := by
  obtain ⟨v, ih', e, a, b, s, x, l⟩ := run_next c h hm h0 hb
  exact wp.of e (k v ih' a b s x.fr l)
theorem w_source (c : Cs) {ns : List Int} {k : Nat} {ih : IH} {Q : PQ IV} {E : EQ} (h : Scr ns ih) (hb : ∀ z ∈ ns, ibits z ≤ 1048576) (hk : k ≤ 1000000)
    (q : ∀ ih', Src0 ih.length 0 ih' → Fx ih ih' → ih'.length = ih.length + 1 → Q (.ref ih.length) ih') : wp (m_law_source c [.ref 0, .int (k : Int)] ih) Q E := by
  obtain ⟨ih', e, s, x, l⟩ := run_source c h hb hk
  exact wp.of e (q ih' s x.fx l)
end L3
/-! L9: comprehensions whose parts allocate or draw; rows of pairs. -/
namespace L3
open PySem PySem.Spec PyProof.Rows L2
section
variable {Q : PQ IV} {E : EQ} {env : Env} {ih : IH}
/-- a comprehension, with an invariant -/
theorem lc_gen {vs : List Nat} {g : IV → Env → IH → Option Env} {mt : Env → IH → Res Bool} {me : Env → IH → Res IV} {s : Src} (k : Nat) (P : Nat → List IV → IH → Prop) (hk : k ≤ s.size ih) (h0 : P 0 [] (ih ++ [.lst []]))
    (turn : ∀ i acc ih', i < k → P i acc ih' → ih'[ih.length]? = some (.lst acc) → ∃ v ih1 env1, s.turn i ih' = .item v ih1 ∧ g v (wipeI env vs) ih1 = some env1 ∧ wp (mt env1 ih1) (fun b ih2 => (b = false → ih2[ih.length]? = some (.lst acc) ∧ P (i + 1) acc ih2) ∧
      (b = true → wp (me env1 ih2) (fun y ih3 => ih3[ih.length]? = some (.lst acc) ∧ acc.length < 100000 ∧ P (i + 1) (acc ++ [y]) (ih3.set ih.length (.lst (acc ++ [y])))) E0)) E0)
    (stop : ∀ acc ih', P k acc ih' → ih'[ih.length]? = some (.lst acc) → s.turn k ih' = .stop)
    (fin : ∀ acc ih', P k acc ih' → ih'[ih.length]? = some (.lst acc) → Q (.ref ih.length) ih') : k_lc vs g mt me env Q E s ih := by
  obtain ⟨acc', ih', e1, e2, e3⟩ := lcGo_ind (s := s) (g := g) (n := mt) (me := me) (d := ih.length) (env := wipeI env vs) k P
    (fun i acc ih' hi hp hd => by
      obtain ⟨v, ih1, env1, t1, t2, t3⟩ := turn i acc ih' hi hp hd
      obtain ⟨b, ih2, e1, e2, e3⟩ := t3.out
      refine ⟨v, ih1, env1, b, ih2, t1, t2, e1, e2, fun hb => ?_⟩
      obtain ⟨y, ih3, f1, f2, f3, f4⟩ := (e3 hb).out
      exact ⟨y, ih3, f1, f2, f3, f4⟩)
    stop (s.size ih + 1) 0 [] (ih ++ [.lst []]) (Nat.zero_le _) (by omega) h0 (get_new _ _)
  exact wp.of e1 (fin acc' ih' e3 e2)
/-- over a range, with a test that allocates -/
theorem lc_rngA {vs : List Nat} {i : Nat} {mt : Env → IH → Res Bool} {me : Env → IH → Res IV} {j : Nat} {lo : Int} (T : Nat → Bool) (F : Nat → IV) (hz : j < 100000)
    (ht : ∀ k, k < j → ∀ ih', Fx ih ih' → ih.length ≤ ih'.length → wp (mt ((wipeI env vs).set i (some (.int (lo + (k : Int))))) ih') (fun v ih'' => v = T k ∧ Fx ih' ih'' ∧ ih'.length ≤ ih''.length) E0)
    (he : ∀ k, k < j → T k = true → ∀ ih', Fx ih ih' → ih.length ≤ ih'.length → wp (me ((wipeI env vs).set i (some (.int (lo + (k : Int))))) ih') (fun v ih'' => v = F k ∧ Fx ih' ih'' ∧ ih'.length ≤ ih''.length) E0)
    (q : ∀ ih', Fx ih ih' → ih.length < ih'.length → ih'[ih.length]? = some (.lst (((List.range j).filter T).map F)) → Q (.ref ih.length) ih') : k_lc vs (g_nm i) mt me env Q E (.rng lo 1 j) ih := by
  refine lc_gen j (fun k acc ih' => acc = ((List.range k).filter T).map F ∧ Fx ih ih' ∧ ih.length < ih'.length) (Nat.le_refl _) ⟨by simp, Fx.app, by simp⟩ (fun k acc ih' hk ⟨ha, fx, lx⟩ hd => ?_) (fun acc ih' _ _ => stop_rng) fun acc ih' ⟨ha, fx, lx⟩ hd => q ih' fx lx (by rw [← ha]; exact hd)
  have e0 : lo + (k : Int) * 1 = lo + (k : Int) := by omega
  refine ⟨.int (lo + (k : Int)), _, _, by rw [turn_rng hk, e0], rfl, (ht k hk ih' fx (by omega)).imp (fun v ih2 ⟨hv, f2, l2⟩ => ⟨fun hb => ⟨by rw [f2 _ lx]; exact hd, ?_, fx.trans f2 (by omega), by omega⟩, fun hb => (he k hk (by rw [← hv]; exact hb) ih2 (fx.trans f2 (by omega)) (by omega)).imp (fun y ih3 ⟨hy, f3, l3⟩ => ⟨by rw [f3 _ (by omega), f2 _ lx]; exact hd, ?_, ?_, ?_, ?_⟩) fun _ _ h => h⟩) fun _ _ h => h⟩
  · rw [List.range_succ, List.filter_append, ha, List.filter_cons, ← hv, hb]
    simp
  · rw [ha, List.length_map]
    exact Nat.lt_of_le_of_lt (List.length_filter_le _ _) (by rw [List.length_range]; omega)
  · rw [List.range_succ, List.filter_append, ha, List.filter_cons, ← hv, hb, hy]
    simp
  · exact ((fx.trans f2 (by omega)).trans f3 (by omega)).set (Nat.le_refl _)
  · rw [List.length_set]
    omega
end
/-- rows: references to pairs of ints -/
def PR (ih : IH) : List IV → List (Int × Int) → Prop
  | [], [] => True
  | .ref t :: xs, r :: rs => ih[t]? = some (.tup [.int r.1, .int r.2]) ∧ PR ih xs rs
  | _, _ => False
theorem PR.len {ih : IH} : ∀ {xs : List IV} {rs : List (Int × Int)}, PR ih xs rs → xs.length = rs.length
  | [], [], _ => rfl
  | .ref t :: xs, r :: rs, h => by
    rw [List.length_cons, List.length_cons, PR.len h.2]
theorem PR.mono {a b : IH} (f : ∀ (t : Nat) (i j : Int), a[t]? = some (.tup [.int i, .int j]) → b[t]? = some (.tup [.int i, .int j])) : ∀ {xs : List IV} {rs : List (Int × Int)}, PR a xs rs → PR b xs rs
  | [], [], _ => trivial
  | .ref t :: xs, r :: rs, h => ⟨f _ _ _ h.1, PR.mono f h.2⟩
theorem PR.fx {a b : IH} {xs : List IV} {rs : List (Int × Int)} (h : PR a xs rs) (f : Fx a b) : PR b xs rs := h.mono fun t i j e => by rw [f t (lt_of_get e)]; exact e
theorem PR.fr {a b : IH} {p : Nat} {o : List IV} {xs : List IV} {rs : List (Int × Int)} (h : PR a xs rs) (f : Fr p a b) (hp : a[p]? = some (.lst o)) : PR b xs rs := h.mono fun t i j e => by
  by_cases ht : t = p
  · subst ht
    rw [hp] at e
    cases e
  · rw [f t (lt_of_get e) ht]
    exact e
theorem PR.get {ih : IH} : ∀ {xs : List IV} {rs : List (Int × Int)} {i : Nat} {x : IV}, PR ih xs rs → xs[i]? = some x → ∃ t r, x = .ref t ∧ rs[i]? = some r ∧ ih[t]? = some (.tup [.int r.1, .int r.2])
  | .ref t :: xs, r :: rs, 0, x, h, e => ⟨t, r, (Option.some.inj e).symm, rfl, h.1⟩
  | .ref t :: xs, r :: rs, i + 1, x, h, e => PR.get (i := i) h.2 e
theorem PR.take {ih : IH} : ∀ {xs : List IV} {rs : List (Int × Int)} (n : Nat), PR ih xs rs → PR ih (xs.take n) (rs.take n)
  | _, _, 0, _ => trivial
  | [], [], n + 1, _ => trivial
  | .ref t :: xs, r :: rs, n + 1, h => ⟨h.1, PR.take n h.2⟩
theorem PR.app {ih : IH} {t : Nat} {r : Int × Int} (ht : ih[t]? = some (.tup [.int r.1, .int r.2])) : ∀ {xs : List IV} {rs : List (Int × Int)}, PR ih xs rs → PR ih (xs ++ [.ref t]) (rs ++ [r])
  | [], [], _ => ⟨ht, trivial⟩
  | .ref _ :: xs, _ :: rs, h => ⟨h.1, PR.app ht h.2⟩
theorem PR.append {ih : IH} : ∀ {xs ys : List IV} {rs ss : List (Int × Int)}, PR ih xs rs → PR ih ys ss → PR ih (xs ++ ys) (rs ++ ss)
  | [], _, [], _, _, k => k
  | .ref _ :: xs, _, _ :: rs, _, h, k => ⟨h.1, PR.append h.2 k⟩
theorem g_pairR {i j n : Nat} {v w : IV} {env : Env} {ih : IH} (h : ih[n]? = some (.tup [v, w])) : g_tup 2 (g_cons (g_nm i) (g_cons (g_nm j) g_nil)) (.ref n) env ih = some ((env.set i (some v)).set j (some w)) := by
  unfold g_tup
  dsimp only
  rw [h]
  rfl
/-- [me for a, b in rows], the element leaves the heap -/
theorem lc_rows {Q : PQ IV} {E : EQ} {env : Env} {ih : IH} {vs : List Nat} {i j n : Nat} {me : Env → IH → Res IV} {o : MO} {rs : List (Int × Int)} (F : Int × Int → IV) (ho : ih[n]? = some o) (hl : o.isL = true) (pr : PR ih o.xs rs) (hz : rs.length < 100000)
    (he : ∀ r ∈ rs, ∀ ih', Fx ih ih' → wp (me (((wipeI env vs).set i (some (.int r.1))).set j (some (.int r.2))) ih') (fun v ih'' => v = F r ∧ ih'' = ih') E0)
    (q : Q (.ref ih.length) (ih ++ [.lst (rs.map F)])) : k_lc vs (g_tup 2 (g_cons (g_nm i) (g_cons (g_nm j) g_nil))) n_yes me env Q E (.lst n) ih := by
  have hs : (Src.lst n).size ih = o.xs.length := by
    unfold Src.size
    dsimp only
    rw [ho]
  refine lc_gen o.xs.length (fun k acc ih' => acc = (rs.take k).map F ∧ ih' = ih ++ [.lst acc]) (by rw [hs]; exact Nat.le_refl _) ⟨by simp, rfl⟩ (fun k acc ih' hk ⟨ha, ei⟩ hd => ?_) (fun acc ih' ⟨_, ei⟩ _ => ?_) fun acc ih' ⟨ha, ei⟩ hd => ?_
  · subst ei
    have hx : o.xs[k]? = some o.xs[k] := List.getElem?_eq_getElem hk
    obtain ⟨t, r, e1, e2, e3⟩ := pr.get hx
    have ho' : (ih ++ [MO.lst acc])[n]? = some o := by rw [g_old (lt_of_get ho)]; exact ho
    have e3' : (ih ++ [MO.lst acc])[t]? = some (.tup [.int r.1, .int r.2]) := by rw [g_old (lt_of_get e3)]; exact e3
    have hr : r ∈ rs := List.mem_of_getElem? e2
    have hkr : k < rs.length := (List.getElem?_eq_some_iff.mp e2).1
    with_unfolding_all refine ⟨.ref t, _, _, by rw [turn_lst ho' hl hx, e1], g_pairR e3', ⟨(fun h => nomatch h), fun _ => wp.imp (he r hr _ Fx.app) (fun v ih2 hvi => ?_) fun _ _ h => h⟩⟩
    obtain ⟨hv, hi⟩ := hvi
    subst hi hv
    refine ⟨hd, ?_, ?_, ?_⟩
    · rw [ha, List.length_map, List.length_take]
      omega
    · rw [List.take_add_one, e2, ha, List.map_append]
      rfl
    · rw [set_append_last]
  · subst ei
    exact stop_lst (by rw [g_old (lt_of_get ho)]; exact ho) hl
  · rw [pr.len, List.take_length] at ha
    rw [ei, ha]
    exact q
/-- sorted of two rows -/
theorem wp_sortP2 {Q : PQ IV} {E : EQ} {ih : IH} {n s t : Nat} {a b x y : Int} (h : ih[n]? = some (.lst [.ref s, .ref t])) (hs : ih[s]? = some (.tup [.int a, .int b])) (ht : ih[t]? = some (.tup [.int x, .int y]))
    (q1 : (x < a ∨ (x = a ∧ y < b)) → Q (.ref ih.length) (ih ++ [.lst [.ref t, .ref s]])) (q2 : ¬ (x < a ∨ (x = a ∧ y < b)) → Q (.ref ih.length) (ih ++ [.lst [.ref s, .ref t]])) : wp (f_sortP [.ref n] ih) Q E := by
  have k1 : kI ih (.ref s) = (a, b) := by
    unfold kI
    dsimp only
    rw [hs]
  have k2 : kI ih (.ref t) = (x, y) := by
    unfold kI
    dsimp only
    rw [ht]
  have p1 : isPr ih (.ref s) = true := by
    unfold isPr
    dsimp only
    rw [hs]
  have p2 : isPr ih (.ref t) = true := by
    unfold isPr
    dsimp only
    rw [ht]
  have e : f_sortP [.ref n] ih = .ok (.ref ih.length) (ih ++ [.lst (isB (ltI ih) [] [.ref s, .ref t])]) := by
    unfold f_sortP
    dsimp only
    rw [h]
    dsimp only
    rw [if_pos ⟨rfl, by rw [xs_lst]; simp [p1, p2]⟩]
    rfl
  refine wp.of e ?_
  have e2 : isB (ltI ih) [] [.ref s, .ref t] = if SrtO.lexB (x, y) (a, b) = true then [.ref t, .ref s] else [.ref s, .ref t] := by
    show insB (ltI ih) (.ref t) [.ref s] = _
    unfold insB
    show (if SrtO.lexB (kI ih (.ref t)) (kI ih (.ref s)) = true then _ else _) = _
    rw [k1, k2]
    rfl
  rw [e2]
  by_cases hh : SrtO.lexB (x, y) (a, b) = true
  · rw [if_pos hh]
    exact q1 (by simpa using SrtO.lexB_iff.mp hh)
  · rw [if_neg hh]
    refine q2 fun hc => hh (SrtO.lexB_iff.mpr (by simpa using hc))
theorem wp_max1 {Q : PQ IV} {E : EQ} {ih : IH} {n : Nat} (ns : List Int) (h : ih[n]? = some (.lst (ns.map IV.int))) (hn : 0 < ns.length) (q : ∀ m, m ∈ ns → (∀ y ∈ ns, y ≤ m) → Q (.int m) ih) : wp (f_max1 [.ref n] ih) Q E := by
  have e : f_max1 [.ref n] ih = .ok (.int (maxI ns)) ih := by
    unfold f_max1 f_ints
    dsimp only
    rw [h]
    dsimp only
    rw [if_pos (isL_lst _), xs_lst, ints?_map]
    dsimp only
    rw [if_pos hn]
  exact wp.of e (q _ (maxI_spec hn).1 (maxI_spec hn).2)
theorem wp_min1 {Q : PQ IV} {E : EQ} {ih : IH} {n : Nat} (ns : List Int) (h : ih[n]? = some (.lst (ns.map IV.int))) (hn : 0 < ns.length) (q : ∀ m, m ∈ ns → (∀ y ∈ ns, m ≤ y) → Q (.int m) ih) : wp (f_min1 [.ref n] ih) Q E := by
  have e : f_min1 [.ref n] ih = .ok (.int (minI ns)) ih := by
    unfold f_min1 f_ints
    dsimp only
    rw [h]
    dsimp only
    rw [if_pos (isL_lst _), xs_lst, ints?_map]
    dsimp only
    rw [if_pos hn]
  exact wp.of e (q _ (minI_spec hn).1 (minI_spec hn).2)
/-! ### an int or None -/
def ofO : Option Int → IV
  | some i => .int i
  | none => .non
def oD : Option Int → PyData
  | some i => .int i
  | none => .none
theorem Is.ofO {ih : IH} : ∀ x : Option Int, Is ih (ofO x) (oD x)
  | some i => .int i
  | none => .non
theorem shaped_oD : ∀ x : Option Int, SeqAt.shaped (oD x) = true
  | some i => shaped_int i
  | none => by simp [oD, SeqAt.shaped, PyData.canLay0, PyData.depth]
theorem Is.fx {a b : IH} {d : PyData} {v : IV} (h : Is a v d) (f : Fx a b) : Is b v d := Is.ext f.ext d v h
theorem cutI_take {xs : List IV} {k : Nat} (h : k ≤ xs.length) : cutI xs none (some (k : Int)) = xs.take k := by
  unfold cutI
  rw [HT.sIx_none]
  have e : HT.sIx xs.length xs.length (some (k : Int)) = k := by
    have h2 := HT.clip_eq (k : Int) xs.length xs.length
    rw [if_neg (by omega)] at h2
    omega
  rw [e, List.drop_zero, Nat.sub_zero]
def prD (r : Int × Int) : PyData := .tuple [.int r.1, .int r.2]
theorem canLay_prs : ∀ rs : List (Int × Int), PyData.canLayAll0 (rs.map prD) = true
  | [] => by simp [PyData.canLayAll0]
  | r :: rs => by simp [prD, PyData.canLayAll0, PyData.canLay0, canLay_prs rs]
theorem depth_prs : ∀ rs : List (Int × Int), PyData.depthAll (rs.map prD) ≤ 3
  | [] => by simp [PyData.depthAll]
  | r :: rs => by
    have := depth_prs rs
    simp only [List.map_cons, PyData.depthAll, prD, PyData.depth]
    omega
theorem PR.is {ih : IH} : ∀ {xs : List IV} {rs : List (Int × Int)}, PR ih xs rs → IsAll ih xs (rs.map prD)
  | [], [], _ => .nil
  | .ref t :: xs, r :: rs, h => .cons (.tup h.1 rfl (.cons (.int r.1) (.cons (.int r.2) .nil))) (PR.is h.2)
end L3
/-! L15: a caught exception by its name, count and index, texts, values of all kinds; backwards. -/
namespace L3
open PySem PySem.Spec PyProof.Rows L2
open Classical in
noncomputable def tryH (i : Nat) (exm : Addr → Option Bool) (ms : Addr → Addr → Env → IH → RS) (c : Addr) (env1 : Env) (ih1 : IH) : RS := match exm c with
  | some true => if ∀ a, (ms a c (env1.set i (some (.gl a))) ih1).unset i = (ms 0 c (env1.set i (some (.gl 0))) ih1).unset i then (ms 0 c (env1.set i (some (.gl 0))) ih1).unset i else .stuck
  | some false => .exc c env1 ih1
  | none => .stuck
def k_try (i : Nat) (exm : Addr → Option Bool) (ms : Addr → Addr → Env → IH → RS) (S : SQ) (F : ES) : ES := fun c env ih => ws (tryH i exm ms c env ih) S F
section
variable {i : Nat} {exm : Addr → Option Bool} {ms : Addr → Addr → Env → IH → RS} {mb : Env → IH → RS} {S : SQ} {F : ES} {Q : PQ IV} {E : EQ} {env : Env} {ih ih' : IH} {c a d : Addr} {v x y : IV} {K : PySem.W.Frag} {T : String} {b : Bool} {n p : Nat} {xs : List IV}
theorem ws_try : ws (ms_try i exm mb ms env ih) S F = ws (mb env ih) S (k_try i exm ms S F) := by
  unfold ms_try
  cases mb env ih <;> with_unfolding_all rfl
theorem kk_try (he : exm c = some true) (h : ∀ a, ms a c (env.set i (some (.gl a))) ih = .ok (.ret v) ih') (q : S (.ret v) ih') : k_try i exm ms S F c env ih := by
  unfold k_try tryH
  rw [he]
  dsimp only
  rw [if_pos (fun a => by rw [h a, h 0]), h 0]
  with_unfolding_all exact q
theorem kk_tryF (he : exm c = some false) (q : F c env ih) : k_try i exm ms S F c env ih := by
  unfold k_try tryH
  rw [he]
  with_unfolding_all exact q
def k_isE (Q : PQ IV) (ih : IH) : Option Bool → Prop
  | some b => Q (.bl b) ih
  | none => False
theorem kk_isE : k_isE Q ih (some b) = Q (.bl b) ih := rfl
theorem wp_isEg (h : ExcC K c) : wp (f_isE K a c [.gl a, .gl d] ih) Q E = k_isE Q ih (PySem.W.kitOne K (.ref c) (.ref d)) := by
  unfold f_isE
  dsimp only
  rw [if_pos ⟨rfl, h⟩]
  dsimp only [clsOf]
  cases PySem.W.kitOne K (.ref c) (.ref d) <;> with_unfolding_all rfl
theorem wp_isEt (h : ExcC K c) : wp (f_isE K a c [.gl a, .ty T] ih) Q E = k_isE Q ih (PySem.W.kitOne K (.ref c) (.type T)) := by
  unfold f_isE
  dsimp only
  rw [if_pos ⟨rfl, h⟩]
  dsimp only [clsOf]
  cases PySem.W.kitOne K (.ref c) (.type T) <;> with_unfolding_all rfl
theorem wp_count {k : Int} (h : ih[n]? = some (.lst xs)) (f : (flatI y && xs.all flatI) = true) (e : ((xs.countP (eqI y) : Nat) : Int) = k) (q : Q (.int k) ih) : wp (f_count (.ref n) [y] ih) Q E := by
  rw [Bool.and_eq_true] at f
  have : f_count (.ref n) [y] ih = .ok (.int k) ih := by
    unfold f_count
    dsimp only
    rw [h]
    dsimp only
    rw [if_pos ⟨rfl, f.1, f.2⟩]
    show Res.ok (IV.int ((xs.countP (eqI y) : Nat) : Int)) ih = _
    rw [e]
  exact wp.of this q
theorem wp_index {j : Nat} (h : ih[n]? = some (.lst xs)) (f : (flatI y && xs.all flatI) = true) (e : xs.findIdx? (eqI y) = some j) (q : Q (.int (j : Int)) ih) : wp (f_index (.ref n) [y] ih) Q E := by
  rw [Bool.and_eq_true] at f
  have : f_index (.ref n) [y] ih = .ok (.int (j : Int)) ih := by
    unfold f_index
    dsimp only
    rw [h]
    dsimp only
    rw [if_pos ⟨rfl, f.1, f.2⟩]
    show (match xs.findIdx? (eqI y) with
      | some j => Res.ok (IV.int (j : Nat)) ih
      | none => .stuck) = _
    rw [e]
  exact wp.of this q
def b2i (b : Bool) : Int := if b = true then 1 else 0
theorem wp_int2 : wp (f_int [.bl b] ih) Q E = Q (.int (b2i b)) ih := by with_unfolding_all rfl
theorem pick2 : atI [x, y] (b2i b) = some (if b = true then y else x) := by cases b <;> rfl
theorem wp_dct (q : Q (.ref ih.length) (ih ++ [.dct])) : wp (m_dct env ih) Q E := by with_unfolding_all exact q
theorem wp_mulL {k : Int} (h : ih[n]? = some (.lst xs)) (h0 : 0 ≤ k) (h1 : k ≤ 100000) (h2 : xs.length * k.toNat ≤ 100000) (q : Q (.ref ih.length) (ih ++ [.lst (List.replicate k.toNat xs).flatten])) : wp (f_mulA (.ref n) (.int k) ih) Q E := by
  have : f_mulA (.ref n) (.int k) ih = .ok (.ref ih.length) (ih ++ [.lst (List.replicate k.toNat xs).flatten]) := by
    unfold f_mulA
    dsimp only
    rw [h]
    dsimp only
    rw [if_pos ⟨h0, h1, h2⟩]
  exact wp.of this q
theorem wp_tupleL (h : ih[n]? = some (.lst xs)) (q : Q (.ref ih.length) (ih ++ [.tup xs])) : wp (f_tuple [.ref n] ih) Q E := by
  have : f_tuple [.ref n] ih = .ok (.ref ih.length) (ih ++ [.tup xs]) := by
    unfold f_tuple
    dsimp only
    rw [h]
    rfl
  exact wp.of this q
theorem wp_eqLen {m : Nat} {ys : List IV} (h1 : ih[n]? = some (.lst xs)) (h2 : ih[m]? = some (.lst ys)) (hl : xs.length ≠ ys.length) (q : Q (.bl false) ih) : wp (f_eq (.ref n) (.ref m) ih) Q E :=
  wp.of (f_eqn_len h1 h2 rfl rfl hl) q
end
/-! ### values of all kinds -/
def KV (p : Nat) (ih : IH) : IV → Prop
  | .ref k => k ≠ p ∧ ∃ t, tyO ih[k]? = some t
  | .gl _ => False
  | .ty _ => False
  | _ => True
def whl (l : Int) : IV → Bool
  | .int i => decide (l ≤ i)
  | _ => false
theorem tyO_lt {ih : IH} {k : Nat} {t : String} (h : tyO ih[k]? = some t) : k < ih.length := by
  rcases Nat.lt_or_ge k ih.length with l | l
  · exact l
  · rw [List.getElem?_eq_none l] at h
    cases h
theorem KV.fr {p : Nat} {ih ih' : IH} {v : IV} (h : KV p ih v) (f : Fr p ih ih') : KV p ih' v := by
  cases v with
  | ref k =>
    obtain ⟨h1, t, h2⟩ := h
    exact ⟨h1, t, by rw [f k (tyO_lt h2) h1]; exact h2⟩
  | _ => exact h
theorem KV.fx {p : Nat} {ih ih' : IH} {v : IV} (h : KV p ih v) (f : Fx ih ih') : KV p ih' v := h.fr f.fr
theorem tyO_cases {ih : IH} {k : Nat} {t : String} (h : tyO ih[k]? = some t) : (t = "list" ∧ ∃ xs, ih[k]? = some (.lst xs)) ∨ t = "tuple" ∨ t = "dict" := by
  unfold tyO at h
  split at h
  · rename_i xs e
    cases h
    exact .inl ⟨rfl, xs, e⟩
  · cases h; exact .inr (.inl rfl)
  · cases h; exact .inr (.inr rfl)
  · cases h; exact .inr (.inr rfl)
  · cases h
/-- what is no good list; T: the good ones -/
def Bad (T : List IV → Bool) (p : Nat) (ih : IH) : IV → Prop
  | .ref k => k ≠ p ∧ ((∃ xs, ih[k]? = some (.lst xs) ∧ xs.length < 1000 ∧ (∀ x ∈ xs, KV p ih x) ∧ T xs = false) ∨ ∃ t, tyO ih[k]? = some t ∧ t ≠ "list")
  | .gl _ => False
  | .ty _ => False
  | _ => True
theorem Bad.fr {T : List IV → Bool} {p : Nat} {ih ih' : IH} {v : IV} (h : Bad T p ih v) (f : Fr p ih ih') : Bad T p ih' v := by
  cases v with
  | ref k =>
    obtain ⟨h1, h2⟩ := h
    refine ⟨h1, ?_⟩
    rcases h2 with ⟨xs, g, a, b, d⟩ | ⟨t, g, b⟩
    · exact .inl ⟨xs, by rw [f k (lt_of_get g) h1]; exact g, a, fun x hx => (b x hx).fr f, d⟩
    · exact .inr ⟨t, by rw [f k (tyO_lt g) h1]; exact g, b⟩
  | _ => exact h
theorem whl_int {xs : List IV} {l : Int} (h : xs.all (whl l) = true) : ∃ ns : List Int, xs = ns.map IV.int ∧ ∀ n ∈ ns, l ≤ n := by
  induction xs with
  | nil => exact ⟨[], rfl, fun _ h => nomatch h⟩
  | cons x r ih =>
    rw [List.all_cons, Bool.and_eq_true] at h
    obtain ⟨ns, e, hn⟩ := ih h.2
    cases x with
    | int i => exact ⟨i :: ns, by rw [e]; rfl, fun n hm => by
        rcases List.mem_cons.mp hm with e2 | e2
        · rw [e2]; exact of_decide_eq_true h.1
        · exact hn n e2⟩
    | _ => cases h.1
theorem strOk_sh (x : Str) (hx : PyData.strOk x = true) : SeqAt.shaped (.str x) = true := by
  simp [hx, SeqAt.shaped, PyData.canLay0, PyData.canLayAll0, PyData.depth, PyData.depthAll]
section
variable {Q : PQ IV} {E : EQ} {ih : IH} {x y : Str}
theorem wp_neS (hx : PyData.strOk x = true) (hy : PyData.strOk y = true) : wp (f_ne (.str x) (.str y) ih) Q E = Q (.bl (!decide (x = y))) ih := by
  rw [f_ne_of (.str x) (.str y) (strOk_sh x hx) (strOk_sh y hy)]
  with_unfolding_all show Q (.bl (!PyData.eqv (.str x) (.str y))) ih = _
  have : PyData.eqv (.str x) (.str y) = decide (x = y) := by
    unfold PyData.eqv
    by_cases h : x = y
    · subst h; simp
    · simp [h]
  rw [this]
end
/-! ### several objects that stay -/
/-- objects, none of them the source -/
structure Kp (p : Nat) (ih : IH) (L : List (Nat × MO)) : Prop where
  all : ∀ x ∈ L, ih[x.1]? = some x.2 ∧ x.1 ≠ p
theorem Kp.nil {p : Nat} {ih : IH} : Kp p ih [] := ⟨fun _ h => nomatch h⟩
theorem Kp.fr {p : Nat} {ih ih' : IH} {L : List (Nat × MO)} (h : Kp p ih L) (f : Fr p ih ih') : Kp p ih' L := ⟨fun x hx => by
  obtain ⟨a, b⟩ := h.all x hx
  exact ⟨(f x.1 (lt_of_get a) b).trans a, b⟩⟩
theorem Kp.fx {p : Nat} {ih ih' : IH} {L : List (Nat × MO)} (h : Kp p ih L) (f : Fx ih ih') : Kp p ih' L := h.fr f.fr
theorem Kp.put {p q : Nat} {ih : IH} {o : MO} {L : List (Nat × MO)} (h : Kp p ih L) (g : ih[q]? = some o) (e : q ≠ p) : Kp p ih ((q, o) :: L) := ⟨fun x hx => by
  rcases List.mem_cons.mp hx with rfl | hx
  · exact ⟨g, e⟩
  · exact h.all x hx⟩
theorem Kp.add {p q : Nat} {ih ih' : IH} {o : MO} {L : List (Nat × MO)} (h : Kp p ih L) (f : Fx ih ih') (g : ih'[q]? = some o) (l : ih.length ≤ q) (lp : p < ih.length) : Kp p ih' ((q, o) :: L) := (h.fx f).put g (by omega)
theorem Kp.get {p q : Nat} {ih : IH} {o : MO} {L : List (Nat × MO)} (h : Kp p ih L) (i : Nat) (e : L[i]? = some (q, o) := by rfl) : ih[q]? = some o := (h.all _ (List.mem_of_getElem? e)).1
theorem Kp.ne {p q : Nat} {ih : IH} {o : MO} {L : List (Nat × MO)} (h : Kp p ih L) (i : Nat) (e : L[i]? = some (q, o) := by rfl) : q ≠ p := (h.all _ (List.mem_of_getElem? e)).2
end L3
/-! L16: lambdas kept as objects, run backwards. -/
namespace L3
open PySem PySem.Spec PyProof.Rows L2
section
variable {lams : Nat → Nat → IH → Res IV} {mb : (Nat → Nat → IH → Res IV) → Env → IH → RS} {mF : Nat → Env → IH → RS} {ml : Nat → Env → IH → Res IV} {mla : Env → IH → Res IV} {env : Env} {ih : IH} {Q : PQ IV} {E : EQ} {i j n N e e0 : Nat} {xs : List IV} {vs : List Nat}
theorem wp_lam (h : e0 ≤ ih.length) (q : Q (.ref ih.length) (ih ++ [.fn e0 j])) : wp (m_lam e0 j env ih) Q E := by
  unfold m_lam
  rw [if_pos h]
  with_unfolding_all exact q
theorem wp_call0 (h : env[i]? = some (some (.ref n))) (g : ih[n]? = some (.fn e j)) (q : wp (lams e j ih) Q E) : wp (m_call0 i lams env ih) Q E := by
  unfold m_call0
  rw [h]
  dsimp only
  rw [g]
  exact q
theorem wp_callV (q : wp (mla env ih) (fun y ih2 => wp (defRun N (mb (lamsAt e0 ml (wipeI env vs))) [y] ih2) Q E) E) : wp (m_callV vs 1 N e0 mb ml m_nil mla env ih) Q E := by
  unfold m_callV
  rw [wp_bind]
  with_unfolding_all show wp ((mla env ih).bind _) Q E
  rw [wp_bind]
  exact q
theorem wp_defF : wp (defRunF N mF xs ih) Q E = ws (mF ih.length (startI N xs) (ih ++ [.clo])) (kd Q) (kdE E) := by
  unfold defRunF
  cases mF ih.length (startI N xs) (ih ++ [.clo]) with
  | ok f ih =>
    cases f <;> with_unfolding_all rfl
  | exc c env ih => with_unfolding_all rfl
  | stuck => with_unfolding_all rfl
theorem lamsAt_at {env : Env} {ih : IH} : lamsAt e0 ml env e0 j ih = ml j env ih := if_pos rfl
theorem wp_callK {l : Nat} {g : {α : Type} → List α → List α} {m : List IV → IH → Res IV} (h : xs.length = l ∧ (g xs).length = n) (q : wp (m (g xs) ih) Q E) : wp (f_callK n l g m xs ih) Q E := by
  unfold f_callK
  rw [if_pos h]
  exact q
end
end L3
/-! L17: new objects by simp: the heap is an old one and a written tail. -/
namespace L3
open PySem PySem.Spec PyProof.Rows L2
section
variable {Q : PQ IV} {E : EQ} {ih : IH} {env : Env} {xs ys : List IV} {L : List MO} {o : MO} {n m i e0 j : Nat}
theorem wp_lstE (h : xs.length ≤ 100000) : wp (f_lst xs ih) Q E = Q (.ref ih.length) (ih ++ [.lst xs]) := by
  rw [a_lst h]
  with_unfolding_all rfl
theorem wp_tupE (h : xs.length ≤ 100000) : wp (f_tup xs ih) Q E = Q (.ref ih.length) (ih ++ [.tup xs]) := by
  rw [a_tup h]
  with_unfolding_all rfl
theorem wp_dctE : wp (m_dct env ih) Q E = Q (.ref ih.length) (ih ++ [.dct]) := by with_unfolding_all rfl
theorem wp_lamE : wp (m_lam e0 j env ih) Q E = (e0 ≤ ih.length ∧ Q (.ref ih.length) (ih ++ [.fn e0 j])) := by
  unfold m_lam
  by_cases h : e0 ≤ ih.length
  · rw [if_pos h, eq_true h, true_and]
    with_unfolding_all rfl
  · rw [if_neg h, eq_false h, false_and]
    with_unfolding_all rfl
def k_cat (Q : PQ IV) (ih : IH) : Option MO → Option MO → Prop
  | some (.lst xs), some (.lst ys) => xs.length + ys.length ≤ 100000 ∧ Q (.ref ih.length) (ih ++ [.lst (xs ++ ys)])
  | some (.tup xs), some (.tup ys) => (xs ≠ [] ∧ ys ≠ [] ∧ xs.length + ys.length ≤ 100000) ∧ Q (.ref ih.length) (ih ++ [.tup (xs ++ ys)])
  | _, _ => False
theorem wp_catE : wp (f_add (.ref n) (.ref m) ih) Q E = k_cat Q ih ih[n]? ih[m]? := by
  unfold f_add
  dsimp only
  cases ih[n]? with
  | none => with_unfolding_all rfl
  | some o =>
    cases ih[m]? with
    | none => cases o <;> with_unfolding_all rfl
    | some u =>
      cases o with
      | lst xs =>
        cases u with
        | lst ys =>
          unfold k_cat
          dsimp only
          by_cases h : xs.length + ys.length ≤ 100000
          · rw [if_pos h, eq_true h, true_and]
            with_unfolding_all rfl
          · rw [if_neg h, eq_false h, false_and]
            with_unfolding_all rfl
        | _ => with_unfolding_all rfl
      | tup xs =>
        cases u with
        | tup ys =>
          unfold k_cat
          dsimp only
          by_cases h : xs ≠ [] ∧ ys ≠ [] ∧ xs.length + ys.length ≤ 100000
          · rw [if_pos h, eq_true h, true_and]
            with_unfolding_all rfl
          · rw [if_neg h, eq_false h, false_and]
            with_unfolding_all rfl
        | _ => with_unfolding_all rfl
      | _ => cases u <;> with_unfolding_all rfl
theorem kk_catL : k_cat Q ih (some (.lst xs)) (some (.lst ys)) = (xs.length + ys.length ≤ 100000 ∧ Q (.ref ih.length) (ih ++ [.lst (xs ++ ys)])) := rfl
def k_list (Q : PQ IV) (ih : IH) : Option MO → Prop
  | some (.lst xs) => Q (.ref ih.length) (ih ++ [.lst xs])
  | some (.tup xs) => Q (.ref ih.length) (ih ++ [.lst xs])
  | _ => False
theorem wp_listE {o : MO} (h : ih[n]? = some o) (hs : o.isS = true) : wp (f_list [.ref n] ih) Q E = Q (.ref ih.length) (ih ++ [.lst o.xs]) := by
  rw [a_list h hs]
  with_unfolding_all rfl
theorem g_appn : (ih ++ L)[ih.length + n]? = L[n]? := by
  rw [List.getElem?_append_right (by omega)]
  congr 1
  omega
theorem g_app0 : (ih ++ L)[ih.length]? = L[0]? := g_appn (n := 0)
theorem g_appo (h : n < ih.length) : (ih ++ L)[n]? = ih[n]? := List.getElem?_append_left h
theorem g_setn : (ih ++ L).set (ih.length + n) o = ih ++ L.set n o := by
  rw [List.set_append_right _ _ (by omega)]
  congr 2
  omega
theorem g_set0 : (ih ++ L).set ih.length o = ih ++ L.set 0 o := g_setn (n := 0)
theorem g_seto (h : n < ih.length) : (ih ++ L).set n o = ih.set n o ++ L := List.set_append_left _ _ h
/-- the continuation hidden, lest the unifier runs it -/
theorem hide_wp {α : Type} {r : Res α} {Q : PQ α} {E : EQ} (h : ∀ P, P = Q → wp r P E) : wp r Q E := h Q rfl
theorem Fx.apps {a : IH} {L : List MO} : Fx a (a ++ L) := fun n h => g_appo h
end
end L3
/-! PW: is_whole. -/
namespace L3
open PySem PySem.Spec PyProof.Rows L2
local macro_rules | `(tactic| walk_at "get") => `(tactic| simp (disch := first | assumption | omega | (simp only [List.length_append, List.length_set, List.length_cons, List.length_nil, List.length_map] <;> omega) | fail) only [g_new, g_nw, g_old, g_set, g_sne, List.length_append, List.length_set, List.length_cons, List.length_nil, List.length_map, List.map_map, Function.comp_def, xs_lst, xs_tup, isL_lst, isL_tup, ↓reduceIte, *])
local macro_rules | `(tactic| walk_at "fr") => `(tactic| first | (intro _ _ _; simp (disch := first | assumption | omega | (simp only [List.length_append, List.length_set, List.length_cons, List.length_nil, List.length_map] <;> omega) | fail) only [g_new, g_nw, g_old, g_set, g_sne, List.length_append, List.length_set, List.length_cons, List.length_nil, List.length_map, List.map_map, Function.comp_def, xs_lst, xs_tup, isL_lst, isL_tup, ↓reduceIte, *]) | (intro _ _; simp (disch := first | assumption | omega | (simp only [List.length_append, List.length_set, List.length_cons, List.length_nil, List.length_map] <;> omega) | fail) only [g_new, g_nw, g_old, g_set, g_sne, List.length_append, List.length_set, List.length_cons, List.length_nil, List.length_map, List.map_map, Function.comp_def, xs_lst, xs_tup, isL_lst, isL_tup, ↓reduceIte, *]))
local macro_rules | `(tactic| walk_at "run") => `(tactic| simp -implicitDefEqProofs (disch := first | assumption | omega | (simp only [List.length_append, List.length_set, List.length_cons, List.length_nil, List.length_map] <;> omega) | fail) only [wp_ok, wp_exc, wp_stuck, ws_ok, ws_exc, ws_stuck, wp_op, kk_op, kk_un, wp_un, wp_cons, kk_cons, kk_cons2, wp_nil, wp_c, wp_app, wp_if, kk_if1, kk_if0, wp_and, kk_and1, kk_and0, wp_or, kk_or1, kk_or0, wp_not, kk_not, wp_tb, kk_tb, wp_andV, kk_andV1, kk_andV0, wp_orV, kk_orV1, kk_orV0, wp_notV, kk_notV, wp_noneS, wp_some, kk_some, wp_sl, kk_sl, kk_sl2, kk_sl3, wp_mL, kk_mL, kk_mL2, wp_mL0, kk_mL0, wp_chain, kk_ch, kk_ch2, kk_ch31, kk_ch30, ws_set, kks_nm, kks_g, kks_tup, kks_lst, ws_expr, kks_expr, ws_ret, kks_ret, ws_retN, ws_pass, ws_brk, ws_cont, ws_raise, ws_if, kks_if1, kks_if0, ws_seq, kks_next, kks_retS, kks_brk, kks_cont, kk_augE, ws_aug, kks_aug, kks_aug2, ws_par, kks_par, ws_setL, kks_sl, kks_sl2, kks_sl3, wp_def, kkd_ret, kkd_next, kkdE, kkE, ws_for, wp_lc, wp_r1, kk_r1, wp_r2, kk_r2, wp_il, wp_it, wp_ie, wp_iz, kk_il, kk_il2, kk_it, kk_it2, kk_ie, kk_ie2, kk_iz, kk_iz2, lAt_k, k_lAtL, k_lAtO, k_lAtT, wp_int, wp_add, wp_addI, wp_sub, wp_neg, wp_lt, wp_le, wp_gt, wp_ge, wp_max2, wp_min2, wp_abs, wp_mulI, wp_mul, wp_fdiv, wp_mod, wp_shl, wp_shr, wp_pow, wp_isN, wp_notN, wp_eqI, wp_neI, wp_ix, kk_ix, kk_ix2, wp_len, kk_lenL, kk_lenT, kk_lenO, kk_lenP, wp_appd, kk_app1, isL_k, kk_isL, startI_cons, startI_nil, rep_succ, rep_zero, List.getElem?_cons_zero, List.getElem?_cons_succ, List.set_cons_zero, List.set_cons_succ, f_call, m_var, List.append_nil, List.nil_append, List.cons_append, List.length_cons, List.length_nil, if_true, if_false, g_tup, g_lst, g_cons, g_nil, g_nm, Option.bind_some, kks_g, atI_0, atI_1, atI_2, atI_3, atI_4, atI_5, atI_6, atI_7, atI_8, atI_9, atI_10, atI_11, atI_12, atI_last, cutI_1, ixN_30, ixN_31, ixN_32, Int.toNat_zero, Int.reduceToNat, Int.reduceNeg, xs_lst, xs_tup, xs_ro, xs_rot, isL_lst, isL_tup, isL_ro, isL_rot, isT_tup, isT_rot, Bool.false_eq_true, Bool.true_eq_false, Bool.not_true, Bool.not_false, decide_true, decide_false, Int.reduceLT, Int.reduceLE, Nat.reduceLT, Nat.reduceLeDiff, Nat.reduceAdd, Nat.reduceEqDiff, Bool.not_eq_true, true_and, and_true, and_self, eq_self, g_new, g_nw, g_old, g_set, g_sne, List.length_set, List.length_append, wp_r3, kk_r3, Int.cast_ofNat_Int, Int.reduceEq, Int.natCast_zero, Int.natCast_one, ws_whileA, wp_isiII, wp_isiIB, wp_isiI_list, wp_isiI_tuple, wp_isiI_str, wp_isiR, tyO_l, tyO_t, kk_isi, kk_isi2, kit_ll, kit_tt, kit_lt, kit_tl, wp_isiN, wp_isiBl, wp_isiS, tyO_d, kit2_NoneType_int, kit2_NoneType_bool, kit2_NoneType_list, kit2_NoneType_tuple, kit2_NoneType_str, kit2_bool_int, kit2_bool_bool, kit2_bool_list, kit2_bool_tuple, kit2_bool_str, kit2_str_int, kit2_str_bool, kit2_str_list, kit2_str_tuple, kit2_str_str, kit2_dict_int, kit2_dict_bool, kit2_dict_list, kit2_dict_tuple, kit2_dict_str, kit2_list_int, kit2_list_bool, kit2_list_str, kit2_tuple_int, kit2_tuple_bool, kit2_tuple_str, kit2_int_list, kit2_int_tuple, kit2_int_str, kf_next, kf_cont, kf_brk, kf_ret, wipeI, ↓reduceIte, *])
theorem q_whole (c : Cs) (i l : Int) (ih : IH) (Q : PQ IV) (E : EQ) : wp (m_is_whole c [.int i, .int l] ih) Q E = Q (.bl (decide (l ≤ i))) ih := by
  have a3 : decide (IV.int l = IV.non) = false := rfl
  unfold m_is_whole b_is_whole
  walk_at "run"
theorem q_whole0 (c : Cs) (i : Int) (ih : IH) (Q : PQ IV) (E : EQ) : wp (m_is_whole c [.int i, .non] ih) Q E = Q (.bl true) ih := by
  have a3 : decide (IV.non = IV.non) = true := rfl
  unfold m_is_whole b_is_whole
  walk_at "run"
end L3
/-! P0: powers of two. -/
namespace L3
open PySem PySem.Spec PyProof.Rows L2
theorem pow_pos (w : Int) : (0 : Int) < 2 ^ w.toNat := Int.pow_pos (by decide)
theorem pow_B {w : Int} (h0 : 0 ≤ w) (h1 : w ≤ 64) : B 65 ((2 : Int) ^ w.toNat) := by
  refine B.lt (Int.le_of_lt (pow_pos w)) ?_
  obtain ⟨k, rfl⟩ := Int.eq_ofNat_of_zero_le h0
  exact_mod_cast Nat.pow_lt_pow_right (by decide) (by omega)
theorem shl_w {w : Int} (h0 : 0 ≤ w) (h1 : w ≤ 1000000) : cShl 1 w = true ∧ (1 : Int) * 2 ^ w.toNat = 2 ^ w.toNat := by
  obtain ⟨k, rfl⟩ := Int.eq_ofNat_of_zero_le h0
  exact ⟨cShl_of (lit 1 : B 1 1) (by omega), Int.one_mul _⟩
end L3
/-! PP: power. -/
namespace L3
open PySem PySem.Spec PyProof.Rows L2
local macro_rules | `(tactic| walk_at "get") => `(tactic| simp (disch := first | assumption | omega | (simp only [List.length_append, List.length_set, List.length_cons, List.length_nil, List.length_map] <;> omega) | fail) only [g_new, g_nw, g_old, g_set, g_sne, List.length_append, List.length_set, List.length_cons, List.length_nil, List.length_map, List.map_map, Function.comp_def, xs_lst, xs_tup, isL_lst, isL_tup, ↓reduceIte, *])
local macro_rules | `(tactic| walk_at "fr") => `(tactic| first | (intro _ _ _; simp (disch := first | assumption | omega | (simp only [List.length_append, List.length_set, List.length_cons, List.length_nil, List.length_map] <;> omega) | fail) only [g_new, g_nw, g_old, g_set, g_sne, List.length_append, List.length_set, List.length_cons, List.length_nil, List.length_map, List.map_map, Function.comp_def, xs_lst, xs_tup, isL_lst, isL_tup, ↓reduceIte, *]) | (intro _ _; simp (disch := first | assumption | omega | (simp only [List.length_append, List.length_set, List.length_cons, List.length_nil, List.length_map] <;> omega) | fail) only [g_new, g_nw, g_old, g_set, g_sne, List.length_append, List.length_set, List.length_cons, List.length_nil, List.length_map, List.map_map, Function.comp_def, xs_lst, xs_tup, isL_lst, isL_tup, ↓reduceIte, *]))
local macro_rules | `(tactic| walk_at "run") => `(tactic| simp -implicitDefEqProofs (disch := first | assumption | omega | (simp only [List.length_append, List.length_set, List.length_cons, List.length_nil, List.length_map] <;> omega) | fail) only [wp_ok, wp_exc, wp_stuck, ws_ok, ws_exc, ws_stuck, wp_op, kk_op, kk_un, wp_un, wp_cons, kk_cons, kk_cons2, wp_nil, wp_c, wp_app, wp_if, kk_if1, kk_if0, wp_and, kk_and1, kk_and0, wp_or, kk_or1, kk_or0, wp_not, kk_not, wp_tb, kk_tb, wp_andV, kk_andV1, kk_andV0, wp_orV, kk_orV1, kk_orV0, wp_notV, kk_notV, wp_noneS, wp_some, kk_some, wp_sl, kk_sl, kk_sl2, kk_sl3, wp_mL, kk_mL, kk_mL2, wp_mL0, kk_mL0, wp_chain, kk_ch, kk_ch2, kk_ch31, kk_ch30, ws_set, kks_nm, kks_g, kks_tup, kks_lst, ws_expr, kks_expr, ws_ret, kks_ret, ws_retN, ws_pass, ws_brk, ws_cont, ws_raise, ws_if, kks_if1, kks_if0, ws_seq, kks_next, kks_retS, kks_brk, kks_cont, kk_augE, ws_aug, kks_aug, kks_aug2, ws_par, kks_par, ws_setL, kks_sl, kks_sl2, kks_sl3, wp_def, kkd_ret, kkd_next, kkdE, kkE, ws_for, wp_lc, wp_r1, kk_r1, wp_r2, kk_r2, wp_il, wp_it, wp_ie, wp_iz, kk_il, kk_il2, kk_it, kk_it2, kk_ie, kk_ie2, kk_iz, kk_iz2, lAt_k, k_lAtL, k_lAtO, k_lAtT, wp_int, wp_add, wp_addI, wp_sub, wp_neg, wp_lt, wp_le, wp_gt, wp_ge, wp_max2, wp_min2, wp_abs, wp_mulI, wp_mul, wp_fdiv, wp_mod, wp_shl, wp_shr, wp_pow, wp_isN, wp_notN, wp_eqI, wp_neI, wp_ix, kk_ix, kk_ix2, wp_len, kk_lenL, kk_lenT, kk_lenO, kk_lenP, wp_appd, kk_app1, isL_k, kk_isL, startI_cons, startI_nil, rep_succ, rep_zero, List.getElem?_cons_zero, List.getElem?_cons_succ, List.set_cons_zero, List.set_cons_succ, f_call, m_var, List.append_nil, List.nil_append, List.cons_append, List.length_cons, List.length_nil, if_true, if_false, g_tup, g_lst, g_cons, g_nil, g_nm, Option.bind_some, kks_g, atI_0, atI_1, atI_2, atI_3, atI_4, atI_5, atI_6, atI_7, atI_8, atI_9, atI_10, atI_11, atI_12, atI_last, cutI_1, ixN_30, ixN_31, ixN_32, Int.toNat_zero, Int.reduceToNat, Int.reduceNeg, xs_lst, xs_tup, xs_ro, xs_rot, isL_lst, isL_tup, isL_ro, isL_rot, isT_tup, isT_rot, Bool.false_eq_true, Bool.true_eq_false, Bool.not_true, Bool.not_false, decide_true, decide_false, Int.reduceLT, Int.reduceLE, Nat.reduceLT, Nat.reduceLeDiff, Nat.reduceAdd, Nat.reduceEqDiff, Bool.not_eq_true, true_and, and_true, and_self, eq_self, g_new, g_nw, g_old, g_set, g_sne, List.length_set, List.length_append, wp_r3, kk_r3, Int.cast_ofNat_Int, Int.reduceEq, Int.natCast_zero, Int.natCast_one, ws_whileA, wp_isiII, wp_isiIB, wp_isiI_list, wp_isiI_tuple, wp_isiI_str, wp_isiR, tyO_l, tyO_t, kk_isi, kk_isi2, kit_ll, kit_tt, kit_lt, kit_tl, wp_isiN, wp_isiBl, wp_isiS, tyO_d, kit2_NoneType_int, kit2_NoneType_bool, kit2_NoneType_list, kit2_NoneType_tuple, kit2_NoneType_str, kit2_bool_int, kit2_bool_bool, kit2_bool_list, kit2_bool_tuple, kit2_bool_str, kit2_str_int, kit2_str_bool, kit2_str_list, kit2_str_tuple, kit2_str_str, kit2_dict_int, kit2_dict_bool, kit2_dict_list, kit2_dict_tuple, kit2_dict_str, kit2_list_int, kit2_list_bool, kit2_list_str, kit2_tuple_int, kit2_tuple_bool, kit2_tuple_str, kit2_int_list, kit2_int_tuple, kit2_int_str, kf_next, kf_cont, kf_brk, kf_ret, wipeI, ↓reduceIte, *])
theorem q_power (c : Cs) {w : Int} (h0 : 0 ≤ w) (h1 : w ≤ 1000000) (ih : IH) (Q : PQ IV) (E : EQ) : wp (m_power c [.int w] ih) Q E = Q (.int (2 ^ w.toNat)) ih := by
  obtain ⟨c1, c2⟩ := shl_w h0 h1
  unfold m_power b_power
  walk_at "run"
end L3
/-! QS: is_shift. -/
namespace L3
open PySem PySem.Spec PyProof.Rows L2
local macro_rules | `(tactic| walk_at "get") => `(tactic| simp (disch := first | assumption | omega | (simp only [List.length_append, List.length_set, List.length_cons, List.length_nil, List.length_map] <;> omega) | fail) only [g_new, g_nw, g_old, g_set, g_sne, List.length_append, List.length_set, List.length_cons, List.length_nil, List.length_map, List.map_map, Function.comp_def, xs_lst, xs_tup, isL_lst, isL_tup, ↓reduceIte, *])
local macro_rules | `(tactic| walk_at "fr") => `(tactic| first | (intro _ _ _; simp (disch := first | assumption | omega | (simp only [List.length_append, List.length_set, List.length_cons, List.length_nil, List.length_map] <;> omega) | fail) only [g_new, g_nw, g_old, g_set, g_sne, List.length_append, List.length_set, List.length_cons, List.length_nil, List.length_map, List.map_map, Function.comp_def, xs_lst, xs_tup, isL_lst, isL_tup, ↓reduceIte, *]) | (intro _ _; simp (disch := first | assumption | omega | (simp only [List.length_append, List.length_set, List.length_cons, List.length_nil, List.length_map] <;> omega) | fail) only [g_new, g_nw, g_old, g_set, g_sne, List.length_append, List.length_set, List.length_cons, List.length_nil, List.length_map, List.map_map, Function.comp_def, xs_lst, xs_tup, isL_lst, isL_tup, ↓reduceIte, *]))
local macro_rules | `(tactic| walk_at "run") => `(tactic| simp -implicitDefEqProofs (disch := first | assumption | omega | (simp only [List.length_append, List.length_set, List.length_cons, List.length_nil, List.length_map] <;> omega) | fail) only [wp_ok, wp_exc, wp_stuck, ws_ok, ws_exc, ws_stuck, wp_op, kk_op, kk_un, wp_un, wp_cons, kk_cons, kk_cons2, wp_nil, wp_c, wp_app, wp_if, kk_if1, kk_if0, wp_and, kk_and1, kk_and0, wp_or, kk_or1, kk_or0, wp_not, kk_not, wp_tb, kk_tb, wp_andV, kk_andV1, kk_andV0, wp_orV, kk_orV1, kk_orV0, wp_notV, kk_notV, wp_noneS, wp_some, kk_some, wp_sl, kk_sl, kk_sl2, kk_sl3, wp_mL, kk_mL, kk_mL2, wp_mL0, kk_mL0, wp_chain, kk_ch, kk_ch2, kk_ch31, kk_ch30, ws_set, kks_nm, kks_g, kks_tup, kks_lst, ws_expr, kks_expr, ws_ret, kks_ret, ws_retN, ws_pass, ws_brk, ws_cont, ws_raise, ws_if, kks_if1, kks_if0, ws_seq, kks_next, kks_retS, kks_brk, kks_cont, kk_augE, ws_aug, kks_aug, kks_aug2, ws_par, kks_par, ws_setL, kks_sl, kks_sl2, kks_sl3, wp_def, kkd_ret, kkd_next, kkdE, kkE, ws_for, wp_lc, wp_r1, kk_r1, wp_r2, kk_r2, wp_il, wp_it, wp_ie, wp_iz, kk_il, kk_il2, kk_it, kk_it2, kk_ie, kk_ie2, kk_iz, kk_iz2, lAt_k, k_lAtL, k_lAtO, k_lAtT, wp_int, wp_add, wp_addI, wp_sub, wp_neg, wp_lt, wp_le, wp_gt, wp_ge, wp_max2, wp_min2, wp_abs, wp_mulI, wp_mul, wp_fdiv, wp_mod, wp_shl, wp_shr, wp_pow, wp_isN, wp_notN, wp_eqI, wp_neI, wp_ix, kk_ix, kk_ix2, wp_len, kk_lenL, kk_lenT, kk_lenO, kk_lenP, wp_appd, kk_app1, isL_k, kk_isL, startI_cons, startI_nil, rep_succ, rep_zero, List.getElem?_cons_zero, List.getElem?_cons_succ, List.set_cons_zero, List.set_cons_succ, f_call, m_var, List.append_nil, List.nil_append, List.cons_append, List.length_cons, List.length_nil, if_true, if_false, g_tup, g_lst, g_cons, g_nil, g_nm, Option.bind_some, kks_g, atI_0, atI_1, atI_2, atI_3, atI_4, atI_5, atI_6, atI_7, atI_8, atI_9, atI_10, atI_11, atI_12, atI_last, cutI_1, ixN_30, ixN_31, ixN_32, Int.toNat_zero, Int.reduceToNat, Int.reduceNeg, xs_lst, xs_tup, xs_ro, xs_rot, isL_lst, isL_tup, isL_ro, isL_rot, isT_tup, isT_rot, Bool.false_eq_true, Bool.true_eq_false, Bool.not_true, Bool.not_false, decide_true, decide_false, Int.reduceLT, Int.reduceLE, Nat.reduceLT, Nat.reduceLeDiff, Nat.reduceAdd, Nat.reduceEqDiff, Bool.not_eq_true, true_and, and_true, and_self, eq_self, g_new, g_nw, g_old, g_set, g_sne, List.length_set, List.length_append, wp_r3, kk_r3, Int.cast_ofNat_Int, Int.reduceEq, Int.natCast_zero, Int.natCast_one, ws_whileA, wp_isiII, wp_isiIB, wp_isiI_list, wp_isiI_tuple, wp_isiI_str, wp_isiR, tyO_l, tyO_t, kk_isi, kk_isi2, kit_ll, kit_tt, kit_lt, kit_tl, wp_isiN, wp_isiBl, wp_isiS, tyO_d, kit2_NoneType_int, kit2_NoneType_bool, kit2_NoneType_list, kit2_NoneType_tuple, kit2_NoneType_str, kit2_bool_int, kit2_bool_bool, kit2_bool_list, kit2_bool_tuple, kit2_bool_str, kit2_str_int, kit2_str_bool, kit2_str_list, kit2_str_tuple, kit2_str_str, kit2_dict_int, kit2_dict_bool, kit2_dict_list, kit2_dict_tuple, kit2_dict_str, kit2_list_int, kit2_list_bool, kit2_list_str, kit2_tuple_int, kit2_tuple_bool, kit2_tuple_str, kit2_int_list, kit2_int_tuple, kit2_int_str, kf_next, kf_cont, kf_brk, kf_ret, wipeI, ↓reduceIte, *])
theorem q_shift (c : Cs) {h : Int} (h0 : 0 ≤ h) (h1 : h ≤ 64) (ih : IH) (Q : PQ IV) (E : EQ) : wp (m_is_shift c [.int h] ih) Q E = Q (.bl true) ih := by
  have a := q_whole c h 0
  unfold m_is_shift b_is_shift
  walk_at "run"
end L3
/-! RA: rates. -/
namespace L3
open PySem PySem.Spec PyProof.Rows L2
local macro_rules | `(tactic| walk_at "get") => `(tactic| simp (disch := first | assumption | omega | (simp only [List.length_append, List.length_set, List.length_cons, List.length_nil, List.length_map] <;> omega) | fail) only [g_new, g_nw, g_old, g_set, g_sne, List.length_append, List.length_set, List.length_cons, List.length_nil, List.length_map, List.map_map, Function.comp_def, xs_lst, xs_tup, isL_lst, isL_tup, ↓reduceIte, *])
local macro_rules | `(tactic| walk_at "fr") => `(tactic| first | (intro _ _ _; simp (disch := first | assumption | omega | (simp only [List.length_append, List.length_set, List.length_cons, List.length_nil, List.length_map] <;> omega) | fail) only [g_new, g_nw, g_old, g_set, g_sne, List.length_append, List.length_set, List.length_cons, List.length_nil, List.length_map, List.map_map, Function.comp_def, xs_lst, xs_tup, isL_lst, isL_tup, ↓reduceIte, *]) | (intro _ _; simp (disch := first | assumption | omega | (simp only [List.length_append, List.length_set, List.length_cons, List.length_nil, List.length_map] <;> omega) | fail) only [g_new, g_nw, g_old, g_set, g_sne, List.length_append, List.length_set, List.length_cons, List.length_nil, List.length_map, List.map_map, Function.comp_def, xs_lst, xs_tup, isL_lst, isL_tup, ↓reduceIte, *]))
local macro_rules | `(tactic| walk_at "run") => `(tactic| simp -implicitDefEqProofs (disch := first | assumption | omega | (simp only [List.length_append, List.length_set, List.length_cons, List.length_nil, List.length_map] <;> omega) | fail) only [wp_ok, wp_exc, wp_stuck, ws_ok, ws_exc, ws_stuck, wp_op, kk_op, kk_un, wp_un, wp_cons, kk_cons, kk_cons2, wp_nil, wp_c, wp_app, wp_if, kk_if1, kk_if0, wp_and, kk_and1, kk_and0, wp_or, kk_or1, kk_or0, wp_not, kk_not, wp_tb, kk_tb, wp_andV, kk_andV1, kk_andV0, wp_orV, kk_orV1, kk_orV0, wp_notV, kk_notV, wp_noneS, wp_some, kk_some, wp_sl, kk_sl, kk_sl2, kk_sl3, wp_mL, kk_mL, kk_mL2, wp_mL0, kk_mL0, wp_chain, kk_ch, kk_ch2, kk_ch31, kk_ch30, ws_set, kks_nm, kks_g, kks_tup, kks_lst, ws_expr, kks_expr, ws_ret, kks_ret, ws_retN, ws_pass, ws_brk, ws_cont, ws_raise, ws_if, kks_if1, kks_if0, ws_seq, kks_next, kks_retS, kks_brk, kks_cont, kk_augE, ws_aug, kks_aug, kks_aug2, ws_par, kks_par, ws_setL, kks_sl, kks_sl2, kks_sl3, wp_def, kkd_ret, kkd_next, kkdE, kkE, ws_for, wp_lc, wp_r1, kk_r1, wp_r2, kk_r2, wp_il, wp_it, wp_ie, wp_iz, kk_il, kk_il2, kk_it, kk_it2, kk_ie, kk_ie2, kk_iz, kk_iz2, lAt_k, k_lAtL, k_lAtO, k_lAtT, wp_int, wp_add, wp_addI, wp_sub, wp_neg, wp_lt, wp_le, wp_gt, wp_ge, wp_max2, wp_min2, wp_abs, wp_mulI, wp_mul, wp_fdiv, wp_mod, wp_shl, wp_shr, wp_pow, wp_isN, wp_notN, wp_eqI, wp_neI, wp_ix, kk_ix, kk_ix2, wp_len, kk_lenL, kk_lenT, kk_lenO, kk_lenP, wp_appd, kk_app1, isL_k, kk_isL, startI_cons, startI_nil, rep_succ, rep_zero, List.getElem?_cons_zero, List.getElem?_cons_succ, List.set_cons_zero, List.set_cons_succ, f_call, m_var, List.append_nil, List.nil_append, List.cons_append, List.length_cons, List.length_nil, if_true, if_false, g_tup, g_lst, g_cons, g_nil, g_nm, Option.bind_some, kks_g, atI_0, atI_1, atI_2, atI_3, atI_4, atI_5, atI_6, atI_7, atI_8, atI_9, atI_10, atI_11, atI_12, atI_last, cutI_1, ixN_30, ixN_31, ixN_32, Int.toNat_zero, Int.reduceToNat, Int.reduceNeg, xs_lst, xs_tup, xs_ro, xs_rot, isL_lst, isL_tup, isL_ro, isL_rot, isT_tup, isT_rot, Bool.false_eq_true, Bool.true_eq_false, Bool.not_true, Bool.not_false, decide_true, decide_false, Int.reduceLT, Int.reduceLE, Nat.reduceLT, Nat.reduceLeDiff, Nat.reduceAdd, Nat.reduceEqDiff, Bool.not_eq_true, true_and, and_true, and_self, eq_self, g_new, g_nw, g_old, g_set, g_sne, List.length_set, List.length_append, wp_r3, kk_r3, Int.cast_ofNat_Int, Int.reduceEq, Int.natCast_zero, Int.natCast_one, ws_whileA, wp_isiII, wp_isiIB, wp_isiI_list, wp_isiI_tuple, wp_isiI_str, wp_isiR, tyO_l, tyO_t, kk_isi, kk_isi2, kit_ll, kit_tt, kit_lt, kit_tl, wp_isiN, wp_isiBl, wp_isiS, tyO_d, kit2_NoneType_int, kit2_NoneType_bool, kit2_NoneType_list, kit2_NoneType_tuple, kit2_NoneType_str, kit2_bool_int, kit2_bool_bool, kit2_bool_list, kit2_bool_tuple, kit2_bool_str, kit2_str_int, kit2_str_bool, kit2_str_list, kit2_str_tuple, kit2_str_str, kit2_dict_int, kit2_dict_bool, kit2_dict_list, kit2_dict_tuple, kit2_dict_str, kit2_list_int, kit2_list_bool, kit2_list_str, kit2_tuple_int, kit2_tuple_bool, kit2_tuple_str, kit2_int_list, kit2_int_tuple, kit2_int_str, kf_next, kf_cont, kf_brk, kf_ret, wipeI, ↓reduceIte, *])
theorem q_mult (c : Cs) {m : Int} (h0 : 1 ≤ m) (h1 : m < 2 ^ 64) (ih : IH) (Q : PQ IV) (E : EQ) : wp (m_is_mult c [.int m] ih) Q E = Q (.bl true) ih := by
  have a := q_whole c m 1
  have b := q_power c (w := 64) (by decide) (by decide)
  have e : ((2 : Int) ^ (64 : Int).toNat) = 2 ^ 64 := rfl
  rw [e] at b
  unfold m_is_mult b_is_mult
  walk_at "run"
theorem q_rate (c : Cs) {t : Nat} {m h : Int} {ih : IH} (g : ih[t]? = some (.tup [.int m, .int h])) (m0 : 1 ≤ m) (m1 : m < 2 ^ 64) (h0 : 0 ≤ h) (h1 : h ≤ 64) (Q : PQ IV) (E : EQ) : wp (m_check_rate c [.ref t] ih) Q E = Q .non ih := by
  have a := q_mult c m0 m1
  have b := q_shift c h0 h1
  have e : decide (((0 : Nat) : Int) + 1 + 1 = 2) = true := rfl
  unfold m_check_rate b_check_rate
  walk_at "run"
end L3
/-! PV0: is_whole of values of all kinds. -/
namespace L3
open PySem PySem.Spec PyProof.Rows L2
local macro_rules | `(tactic| walk_at "get") => `(tactic| simp (disch := first | assumption | omega | (simp only [List.length_append, List.length_set, List.length_cons, List.length_nil, List.length_map] <;> omega) | fail) only [g_new, g_nw, g_old, g_set, g_sne, List.length_append, List.length_set, List.length_cons, List.length_nil, List.length_map, List.map_map, Function.comp_def, xs_lst, xs_tup, isL_lst, isL_tup, ↓reduceIte, *])
local macro_rules | `(tactic| walk_at "fr") => `(tactic| first | (intro _ _ _; simp (disch := first | assumption | omega | (simp only [List.length_append, List.length_set, List.length_cons, List.length_nil, List.length_map] <;> omega) | fail) only [g_new, g_nw, g_old, g_set, g_sne, List.length_append, List.length_set, List.length_cons, List.length_nil, List.length_map, List.map_map, Function.comp_def, xs_lst, xs_tup, isL_lst, isL_tup, ↓reduceIte, *]) | (intro _ _; simp (disch := first | assumption | omega | (simp only [List.length_append, List.length_set, List.length_cons, List.length_nil, List.length_map] <;> omega) | fail) only [g_new, g_nw, g_old, g_set, g_sne, List.length_append, List.length_set, List.length_cons, List.length_nil, List.length_map, List.map_map, Function.comp_def, xs_lst, xs_tup, isL_lst, isL_tup, ↓reduceIte, *]))
local macro_rules | `(tactic| walk_at "run") => `(tactic| simp -implicitDefEqProofs (disch := first | assumption | omega | (simp only [List.length_append, List.length_set, List.length_cons, List.length_nil, List.length_map] <;> omega) | fail) only [wp_ok, wp_exc, wp_stuck, ws_ok, ws_exc, ws_stuck, wp_op, kk_op, kk_un, wp_un, wp_cons, kk_cons, kk_cons2, wp_nil, wp_c, wp_app, wp_if, kk_if1, kk_if0, wp_and, kk_and1, kk_and0, wp_or, kk_or1, kk_or0, wp_not, kk_not, wp_tb, kk_tb, wp_andV, kk_andV1, kk_andV0, wp_orV, kk_orV1, kk_orV0, wp_notV, kk_notV, wp_noneS, wp_some, kk_some, wp_sl, kk_sl, kk_sl2, kk_sl3, wp_mL, kk_mL, kk_mL2, wp_mL0, kk_mL0, wp_chain, kk_ch, kk_ch2, kk_ch31, kk_ch30, ws_set, kks_nm, kks_g, kks_tup, kks_lst, ws_expr, kks_expr, ws_ret, kks_ret, ws_retN, ws_pass, ws_brk, ws_cont, ws_raise, ws_if, kks_if1, kks_if0, ws_seq, kks_next, kks_retS, kks_brk, kks_cont, kk_augE, ws_aug, kks_aug, kks_aug2, ws_par, kks_par, ws_setL, kks_sl, kks_sl2, kks_sl3, wp_def, kkd_ret, kkd_next, kkdE, kkE, ws_for, wp_lc, wp_r1, kk_r1, wp_r2, kk_r2, wp_il, wp_it, wp_ie, wp_iz, kk_il, kk_il2, kk_it, kk_it2, kk_ie, kk_ie2, kk_iz, kk_iz2, lAt_k, k_lAtL, k_lAtO, k_lAtT, wp_int, wp_add, wp_addI, wp_sub, wp_neg, wp_lt, wp_le, wp_gt, wp_ge, wp_max2, wp_min2, wp_abs, wp_mulI, wp_mul, wp_fdiv, wp_mod, wp_shl, wp_shr, wp_pow, wp_isN, wp_notN, wp_eqI, wp_neI, wp_ix, kk_ix, kk_ix2, wp_len, kk_lenL, kk_lenT, kk_lenO, kk_lenP, wp_appd, kk_app1, isL_k, kk_isL, startI_cons, startI_nil, rep_succ, rep_zero, List.getElem?_cons_zero, List.getElem?_cons_succ, List.set_cons_zero, List.set_cons_succ, f_call, m_var, List.append_nil, List.nil_append, List.cons_append, List.length_cons, List.length_nil, if_true, if_false, g_tup, g_lst, g_cons, g_nil, g_nm, Option.bind_some, kks_g, atI_0, atI_1, atI_2, atI_3, atI_4, atI_5, atI_6, atI_7, atI_8, atI_9, atI_10, atI_11, atI_12, atI_last, cutI_1, ixN_30, ixN_31, ixN_32, Int.toNat_zero, Int.reduceToNat, Int.reduceNeg, xs_lst, xs_tup, xs_ro, xs_rot, isL_lst, isL_tup, isL_ro, isL_rot, isT_tup, isT_rot, Bool.false_eq_true, Bool.true_eq_false, Bool.not_true, Bool.not_false, decide_true, decide_false, Int.reduceLT, Int.reduceLE, Nat.reduceLT, Nat.reduceLeDiff, Nat.reduceAdd, Nat.reduceEqDiff, Bool.not_eq_true, true_and, and_true, and_self, eq_self, g_new, g_nw, g_old, g_set, g_sne, List.length_set, List.length_append, wp_r3, kk_r3, Int.cast_ofNat_Int, Int.reduceEq, Int.natCast_zero, Int.natCast_one, ws_whileA, wp_isiII, wp_isiIB, wp_isiI_list, wp_isiI_tuple, wp_isiI_str, wp_isiR, tyO_l, tyO_t, kk_isi, kk_isi2, kit_ll, kit_tt, kit_lt, kit_tl, wp_isiN, wp_isiBl, wp_isiS, tyO_d, kit2_NoneType_int, kit2_NoneType_bool, kit2_NoneType_list, kit2_NoneType_tuple, kit2_NoneType_str, kit2_bool_int, kit2_bool_bool, kit2_bool_list, kit2_bool_tuple, kit2_bool_str, kit2_str_int, kit2_str_bool, kit2_str_list, kit2_str_tuple, kit2_str_str, kit2_dict_int, kit2_dict_bool, kit2_dict_list, kit2_dict_tuple, kit2_dict_str, kit2_list_int, kit2_list_bool, kit2_list_str, kit2_tuple_int, kit2_tuple_bool, kit2_tuple_str, kit2_int_list, kit2_int_tuple, kit2_int_str, kf_next, kf_cont, kf_brk, kf_ret, wipeI, ↓reduceIte, *])
theorem w_wholeV (c : Cs) {p : Nat} {ih : IH} {v : IV} {Q : PQ IV} {E : EQ} (h : KV p ih v) (l : Int) (q : Q (.bl (whl l v)) ih) : wp (m_is_whole c [v, .int l] ih) Q E := by
  have a3 : decide (IV.int l = IV.non) = false := rfl
  unfold m_is_whole b_is_whole
  cases v with
  | int i =>
    unfold whl at q
    walk_at "run"
    all_goals exact q
  | non => walk_at "run"; all_goals exact q
  | bl b => walk_at "run"; all_goals exact q
  | str x => walk_at "run"; all_goals exact q
  | gl a => exact h.elim
  | ty a => exact h.elim
  | ref k =>
    obtain ⟨_, t, ht⟩ := h
    unfold whl at q
    rcases tyO_cases ht with ⟨e, _⟩ | e | e <;> (subst e; walk_at "run"; all_goals exact q)
/-- None stands for no least one -/
def whl0 : IV → Bool
  | .int _ => true
  | _ => false
theorem w_wholeV0 (c : Cs) {p : Nat} {ih : IH} {v : IV} {Q : PQ IV} {E : EQ} (h : KV p ih v) (q : Q (.bl (whl0 v)) ih) : wp (m_is_whole c [v, .non] ih) Q E := by
  have a3 : decide (IV.non = IV.non) = true := rfl
  unfold m_is_whole b_is_whole
  cases v with
  | int i =>
    unfold whl0 at q
    walk_at "run"
    all_goals exact q
  | non => walk_at "run"; all_goals exact q
  | bl b => walk_at "run"; all_goals exact q
  | str x => walk_at "run"; all_goals exact q
  | gl a => exact h.elim
  | ty a => exact h.elim
  | ref k =>
    obtain ⟨_, t, ht⟩ := h
    unfold whl0 at q
    rcases tyO_cases ht with ⟨e, _⟩ | e | e <;> (subst e; walk_at "run"; all_goals exact q)
end L3
/-! P08: what the checks of rates refuse. (L15) -/
namespace L3
open PySem PySem.Spec PyProof.Rows L2
local macro_rules | `(tactic| walk_at "get") => `(tactic| simp (disch := first | assumption | omega | (simp only [List.length_append, List.length_set, List.length_cons, List.length_nil, List.length_map] <;> omega) | fail) only [g_new, g_nw, g_old, g_set, g_sne, List.length_append, List.length_set, List.length_cons, List.length_nil, List.length_map, List.map_map, Function.comp_def, xs_lst, xs_tup, isL_lst, isL_tup, ↓reduceIte, *])
local macro_rules | `(tactic| walk_at "fr") => `(tactic| first | (intro _ _ _; simp (disch := first | assumption | omega | (simp only [List.length_append, List.length_set, List.length_cons, List.length_nil, List.length_map] <;> omega) | fail) only [g_new, g_nw, g_old, g_set, g_sne, List.length_append, List.length_set, List.length_cons, List.length_nil, List.length_map, List.map_map, Function.comp_def, xs_lst, xs_tup, isL_lst, isL_tup, ↓reduceIte, *]) | (intro _ _; simp (disch := first | assumption | omega | (simp only [List.length_append, List.length_set, List.length_cons, List.length_nil, List.length_map] <;> omega) | fail) only [g_new, g_nw, g_old, g_set, g_sne, List.length_append, List.length_set, List.length_cons, List.length_nil, List.length_map, List.map_map, Function.comp_def, xs_lst, xs_tup, isL_lst, isL_tup, ↓reduceIte, *]))
local macro_rules | `(tactic| walk_at "run") => `(tactic| simp -implicitDefEqProofs (disch := first | assumption | omega | (simp only [List.length_append, List.length_set, List.length_cons, List.length_nil, List.length_map] <;> omega) | fail) only [wp_ok, wp_exc, wp_stuck, ws_ok, ws_exc, ws_stuck, wp_op, kk_op, kk_un, wp_un, wp_cons, kk_cons, kk_cons2, wp_nil, wp_c, wp_app, wp_if, kk_if1, kk_if0, wp_and, kk_and1, kk_and0, wp_or, kk_or1, kk_or0, wp_not, kk_not, wp_tb, kk_tb, wp_andV, kk_andV1, kk_andV0, wp_orV, kk_orV1, kk_orV0, wp_notV, kk_notV, wp_noneS, wp_some, kk_some, wp_sl, kk_sl, kk_sl2, kk_sl3, wp_mL, kk_mL, kk_mL2, wp_mL0, kk_mL0, wp_chain, kk_ch, kk_ch2, kk_ch31, kk_ch30, ws_set, kks_nm, kks_g, kks_tup, kks_lst, ws_expr, kks_expr, ws_ret, kks_ret, ws_retN, ws_pass, ws_brk, ws_cont, ws_raise, ws_if, kks_if1, kks_if0, ws_seq, kks_next, kks_retS, kks_brk, kks_cont, kk_augE, ws_aug, kks_aug, kks_aug2, ws_par, kks_par, ws_setL, kks_sl, kks_sl2, kks_sl3, wp_def, kkd_ret, kkd_next, kkdE, kkE, ws_for, wp_lc, wp_r1, kk_r1, wp_r2, kk_r2, wp_il, wp_it, wp_ie, wp_iz, kk_il, kk_il2, kk_it, kk_it2, kk_ie, kk_ie2, kk_iz, kk_iz2, lAt_k, k_lAtL, k_lAtO, k_lAtT, wp_int, wp_add, wp_addI, wp_sub, wp_neg, wp_lt, wp_le, wp_gt, wp_ge, wp_max2, wp_min2, wp_abs, wp_mulI, wp_mul, wp_fdiv, wp_mod, wp_shl, wp_shr, wp_pow, wp_isN, wp_notN, wp_eqI, wp_neI, wp_ix, kk_ix, kk_ix2, wp_len, kk_lenL, kk_lenT, kk_lenO, kk_lenP, wp_appd, kk_app1, isL_k, kk_isL, startI_cons, startI_nil, rep_succ, rep_zero, List.getElem?_cons_zero, List.getElem?_cons_succ, List.set_cons_zero, List.set_cons_succ, f_call, m_var, List.append_nil, List.nil_append, List.cons_append, List.length_cons, List.length_nil, if_true, if_false, g_tup, g_lst, g_cons, g_nil, g_nm, Option.bind_some, kks_g, atI_0, atI_1, atI_2, atI_3, atI_4, atI_5, atI_6, atI_7, atI_8, atI_9, atI_10, atI_11, atI_12, atI_last, cutI_1, ixN_30, ixN_31, ixN_32, Int.toNat_zero, Int.reduceToNat, Int.reduceNeg, xs_lst, xs_tup, xs_ro, xs_rot, isL_lst, isL_tup, isL_ro, isL_rot, isT_tup, isT_rot, Bool.false_eq_true, Bool.true_eq_false, Bool.not_true, Bool.not_false, decide_true, decide_false, Int.reduceLT, Int.reduceLE, Nat.reduceLT, Nat.reduceLeDiff, Nat.reduceAdd, Nat.reduceEqDiff, Bool.not_eq_true, true_and, and_true, and_self, eq_self, g_new, g_nw, g_old, g_set, g_sne, List.length_set, List.length_append, wp_r3, kk_r3, Int.cast_ofNat_Int, Int.reduceEq, Int.natCast_zero, Int.natCast_one, ws_whileA, wp_isiII, wp_isiIB, wp_isiI_list, wp_isiI_tuple, wp_isiI_str, wp_isiR, tyO_l, tyO_t, kk_isi, kk_isi2, kit_ll, kit_tt, kit_lt, kit_tl, wp_isiN, wp_isiBl, wp_isiS, tyO_d, kit2_NoneType_int, kit2_NoneType_bool, kit2_NoneType_list, kit2_NoneType_tuple, kit2_NoneType_str, kit2_bool_int, kit2_bool_bool, kit2_bool_list, kit2_bool_tuple, kit2_bool_str, kit2_str_int, kit2_str_bool, kit2_str_list, kit2_str_tuple, kit2_str_str, kit2_dict_int, kit2_dict_bool, kit2_dict_list, kit2_dict_tuple, kit2_dict_str, kit2_list_int, kit2_list_bool, kit2_list_str, kit2_tuple_int, kit2_tuple_bool, kit2_tuple_str, kit2_int_list, kit2_int_tuple, kit2_int_str, kf_next, kf_cont, kf_brk, kf_ret, wipeI, ws_try, wp_isEg, wp_isEt, kk_isE, wp_neS, wp_int2, ↓reduceIte, *])
section
variable {p : Nat} {ih : IH} {v : IV} {Q : PQ IV} {E : EQ}
/-- what is no width -/
def OddW (p : Nat) (ih : IH) (v : IV) : Prop := KV p ih v ∧ ∀ z, v = .int z → ¬ (1 ≤ z ∧ z ≤ 64)
theorem OddW.fr {ih' : IH} (h : OddW p ih v) (f : Fr p ih ih') : OddW p ih' v := ⟨h.1.fr f, h.2⟩
theorem w_widthO (c : Cs) (h : OddW p ih v) (q : E c.NoWidth ih) : wp (m_check_width c [v] ih) Q E := by
  obtain ⟨hk, ho⟩ := h
  unfold m_check_width b_check_width
  walk_at "run"
  refine w_wholeV c hk 1 ?_
  cases hw : whl 1 v with
  | false =>
    clear ho
    walk_at "run"
    all_goals exact q
  | true =>
    cases v with
    | int z =>
      have h1 : (1 : Int) ≤ z := of_decide_eq_true hw
      have h2 : 64 < z := by
        have := ho z rfl
        omega
      have d1 := decide_eq_true h2
      clear ho
      walk_at "run"
      all_goals exact q
    | _ => cases hw
theorem w_cycleO (c : Cs) (h : KV p ih v) (ho : whl 0 v = false) (q : E c.NoCycle ih) : wp (m_check_cycle c [v, .int 0] ih) Q E := by
  unfold m_check_cycle b_check_cycle
  walk_at "run"
  refine w_wholeV c h 0 ?_
  walk_at "run"
  all_goals exact q
def ltW (s : Int) : IV → Bool
  | .int a => decide (a < s)
  | _ => false
theorem all_id {f : IV → Bool} {xs : List IV} : ((xs.map f).all id) = xs.all f := by
  rw [List.all_map]
  rfl
def goodM (v : IV) : Bool := whl 1 v && ltW (2 ^ 64) v
def leW (s : Int) : IV → Bool
  | .int a => decide (a ≤ s)
  | _ => false
def goodS (v : IV) : Bool := whl 0 v && leW 64 v
theorem w_multV (c : Cs) (h : KV p ih v) (q : Q (.bl (goodM v)) ih) : wp (m_is_mult c [v] ih) Q E := by
  unfold m_is_mult b_is_mult
  walk_at "run"
  refine w_wholeV c h 1 ?_
  unfold goodM at q
  cases hw : whl 1 v with
  | false =>
    rw [hw] at q
    walk_at "run"
    all_goals exact q
  | true =>
    cases v with
    | int z =>
      rw [hw] at q
      have b := q_power c (w := 64) (by decide) (by decide)
      have e : ((2 : Int) ^ (64 : Int).toNat) = 2 ^ 64 := rfl
      rw [e] at b
      unfold ltW at q
      have q := Hide.mk q
      walk_at "run"
      all_goals exact q.get
    | _ => cases hw
theorem w_shiftV (c : Cs) (h : KV p ih v) (q : Q (.bl (goodS v)) ih) : wp (m_is_shift c [v] ih) Q E := by
  unfold m_is_shift b_is_shift
  walk_at "run"
  refine w_wholeV c h 0 ?_
  unfold goodS at q
  cases hw : whl 0 v with
  | false =>
    rw [hw] at q
    walk_at "run"
    all_goals exact q
  | true =>
    cases v with
    | int z =>
      rw [hw] at q
      unfold leW at q
      have q := Hide.mk q
      walk_at "run"
      all_goals exact q.get
    | _ => cases hw
/-- the items of a pair that is no rate -/
def BadP (p : Nat) (ih : IH) (xs : List IV) : Prop := (xs.length ≠ 2 ∧ xs.length < 1000) ∨ ∃ x y, xs = [x, y] ∧ KV p ih x ∧ KV p ih y ∧ (goodM x && goodS y) = false
def OddR (p : Nat) (ih : IH) : IV → Prop
  | .ref k => k ≠ p ∧ ((∃ xs, ih[k]? = some (.tup xs) ∧ BadP p ih xs) ∨ ∃ t, tyO ih[k]? = some t ∧ t ≠ "tuple")
  | .gl _ => False
  | .ty _ => False
  | _ => True
theorem BadP.fr {ih' : IH} {xs : List IV} (h : BadP p ih xs) (f : Fr p ih ih') : BadP p ih' xs := by
  rcases h with h | ⟨x, y, e, a, b, d⟩
  · exact .inl h
  · exact .inr ⟨x, y, e, a.fr f, b.fr f, d⟩
theorem OddR.fr {ih' : IH} (h : OddR p ih v) (f : Fr p ih ih') : OddR p ih' v := by
  cases v with
  | ref k =>
    obtain ⟨h1, h2⟩ := h
    refine ⟨h1, ?_⟩
    rcases h2 with ⟨xs, g, a⟩ | ⟨t, g, b⟩
    · exact .inl ⟨xs, by rw [f k (lt_of_get g) h1]; exact g, a.fr f⟩
    · exact .inr ⟨t, by rw [f k (tyO_lt g) h1]; exact g, b⟩
  | _ => exact h
theorem w_rateO (c : Cs) (h : OddR p ih v) (q : E c.NoRate ih) : wp (m_check_rate c [v] ih) Q E := by
  unfold m_check_rate b_check_rate
  cases v with
  | gl a => exact h.elim
  | ty a => exact h.elim
  | non => walk_at "run"; all_goals exact q
  | bl b => walk_at "run"; all_goals exact q
  | int b => walk_at "run"; all_goals exact q
  | str b => walk_at "run"; all_goals exact q
  | ref k =>
    obtain ⟨hp, h⟩ := h
    rcases h with ⟨xs, g, hb⟩ | ⟨t, ht, hn⟩
    · rcases hb with ⟨hb, _⟩ | ⟨x, y, e, hx, hy, hg⟩
      · have d1 : decide ((xs.length : Int) = 2) = false := decide_eq_false (by omega)
        clear hb
        walk_at "run"
        all_goals exact q
      · subst e
        have d1 : decide (((0 : Nat) : Int) + 1 + 1 = 2) = true := rfl
        have q := Hide.mk q
        walk_at "run"
        refine w_multV c hx ?_
        cases h1 : goodM x with
        | false =>
          walk_at "run"
          all_goals exact q.get
        | true =>
          rw [h1] at hg
          have h2 : goodS y = false := hg
          walk_at "run"
          refine w_shiftV c hy ?_
          walk_at "run"
          all_goals exact q.get
    · rcases tyO_cases ht with ⟨e, _⟩ | e | e
      · subst e
        walk_at "run"
        all_goals exact q
      · exact absurd e hn
      · subst e
        walk_at "run"
        all_goals exact q
/-! ### what was seen -/
def seenV (ih : IH) : IV → Bool
  | .ref k => match ih[k]? with
    | some (.tup [x, y]) => whl 0 x && whl0 y
    | _ => false
  | _ => false
/-- an element, its own items known -/
def Elm (p : Nat) (ih : IH) (v : IV) : Prop := KV p ih v ∧ ∀ k xs, v = .ref k → ih[k]? = some (.tup xs) → xs.length < 1000 ∧ ∀ x ∈ xs, KV p ih x
theorem w_seenV (c : Cs) (h : Elm p ih v) (q : Q (.bl (seenV ih v)) ih) : wp (m_is_seen c [v] ih) Q E := by
  obtain ⟨hk, ht⟩ := h
  unfold m_is_seen b_is_seen
  have q := Hide.mk q
  cases v with
  | gl a => exact hk.elim
  | ty a => exact hk.elim
  | non => walk_at "run"; all_goals exact q.get
  | bl b => walk_at "run"; all_goals exact q.get
  | int b => walk_at "run"; all_goals exact q.get
  | str b => walk_at "run"; all_goals exact q.get
  | ref k =>
    obtain ⟨hp, t, hty⟩ := hk
    have q := q.get
    unfold seenV at q
    dsimp only at q
    cases hg : ih[k]? with
    | none => rw [hg] at hty; cases hty
    | some o =>
      rw [hg] at hty
      cases o with
      | tup xs =>
        obtain ⟨_, hx⟩ := ht k xs rfl hg
        clear ht
        rw [hg] at q
        clear hty
        rcases xs with _ | ⟨x, _ | ⟨y, _ | ⟨z, r⟩⟩⟩
        · have q : Q (.bl false) ih := q
          have d1 : decide (((0 : Nat) : Int) = 2) = false := rfl
          have q := Hide.mk q
          walk_at "run"
          all_goals exact q.get
        · have q : Q (.bl false) ih := q
          have d1 : decide (((0 : Nat) : Int) + 1 = 2) = false := rfl
          have q := Hide.mk q
          walk_at "run"
          all_goals exact q.get
        · have q : Q (.bl (whl 0 x && whl0 y)) ih := q
          have d1 : decide (((0 : Nat) : Int) + 1 + 1 = 2) = true := rfl
          have kx := hx x (by simp)
          have ky := hx y (by simp)
          clear hx
          have q := Hide.mk q
          walk_at "run"
          refine w_wholeV c kx 0 ?_
          cases hw : whl 0 x with
          | false =>
            have q : Q (.bl (whl 0 x && whl0 y)) ih := q.get
            rw [hw] at q
            have q := Hide.mk q
            walk_at "run"
            all_goals exact q.get
          | true =>
            have q : Q (.bl (whl 0 x && whl0 y)) ih := q.get
            rw [hw] at q
            have q := Hide.mk q
            walk_at "run"
            refine w_wholeV0 c ky ?_
            all_goals exact q.get
        · have q : Q (.bl false) ih := q
          have d1 : decide (((x :: y :: z :: r).length : Int) = 2) = false := decide_eq_false (by simp only [List.length_cons]; omega)
          have e : (x :: y :: z :: r).length = r.length + 3 := rfl
          clear hx
          have q := Hide.mk q
          generalize x :: y :: z :: r = xs at hg d1 e
          walk_at "run"
          all_goals exact q.get
      | lst xs =>
        rw [hg] at q
        have q : Q (.bl false) ih := q
        clear hty
        have q := Hide.mk q
        walk_at "run"
        all_goals exact q.get
      | dct =>
        rw [hg] at q
        have q : Q (.bl false) ih := q
        clear hty
        have q := Hide.mk q
        walk_at "run"
        all_goals exact q.get
      | dk kvs =>
        rw [hg] at q
        have q : Q (.bl false) ih := q
        clear hty
        have q := Hide.mk q
        have td : tyO (some (MO.dk kvs)) = some "dict" := rfl
        walk_at "run"
        all_goals exact q.get
      | _ => cases hty
end
end L3
/-! CE0: rounding up, filters of a range. -/
namespace L3
open PySem PySem.Spec PyProof.Rows L2
local macro_rules | `(tactic| walk_at "get") => `(tactic| simp (disch := first | assumption | omega | (simp only [List.length_append, List.length_set, List.length_cons, List.length_nil, List.length_map] <;> omega) | fail) only [g_new, g_nw, g_old, g_set, g_sne, List.length_append, List.length_set, List.length_cons, List.length_nil, List.length_map, List.map_map, Function.comp_def, xs_lst, xs_tup, isL_lst, isL_tup, ↓reduceIte, *])
local macro_rules | `(tactic| walk_at "fr") => `(tactic| first | (intro _ _ _; simp (disch := first | assumption | omega | (simp only [List.length_append, List.length_set, List.length_cons, List.length_nil, List.length_map] <;> omega) | fail) only [g_new, g_nw, g_old, g_set, g_sne, List.length_append, List.length_set, List.length_cons, List.length_nil, List.length_map, List.map_map, Function.comp_def, xs_lst, xs_tup, isL_lst, isL_tup, ↓reduceIte, *]) | (intro _ _; simp (disch := first | assumption | omega | (simp only [List.length_append, List.length_set, List.length_cons, List.length_nil, List.length_map] <;> omega) | fail) only [g_new, g_nw, g_old, g_set, g_sne, List.length_append, List.length_set, List.length_cons, List.length_nil, List.length_map, List.map_map, Function.comp_def, xs_lst, xs_tup, isL_lst, isL_tup, ↓reduceIte, *]))
local macro_rules | `(tactic| walk_at "run") => `(tactic| simp -implicitDefEqProofs (disch := first | assumption | omega | (simp only [List.length_append, List.length_set, List.length_cons, List.length_nil, List.length_map] <;> omega) | fail) only [wp_ok, wp_exc, wp_stuck, ws_ok, ws_exc, ws_stuck, wp_op, kk_op, kk_un, wp_un, wp_cons, kk_cons, kk_cons2, wp_nil, wp_c, wp_app, wp_if, kk_if1, kk_if0, wp_and, kk_and1, kk_and0, wp_or, kk_or1, kk_or0, wp_not, kk_not, wp_tb, kk_tb, wp_andV, kk_andV1, kk_andV0, wp_orV, kk_orV1, kk_orV0, wp_notV, kk_notV, wp_noneS, wp_some, kk_some, wp_sl, kk_sl, kk_sl2, kk_sl3, wp_mL, kk_mL, kk_mL2, wp_mL0, kk_mL0, wp_chain, kk_ch, kk_ch2, kk_ch31, kk_ch30, ws_set, kks_nm, kks_g, kks_tup, kks_lst, ws_expr, kks_expr, ws_ret, kks_ret, ws_retN, ws_pass, ws_brk, ws_cont, ws_raise, ws_if, kks_if1, kks_if0, ws_seq, kks_next, kks_retS, kks_brk, kks_cont, kk_augE, ws_aug, kks_aug, kks_aug2, ws_par, kks_par, ws_setL, kks_sl, kks_sl2, kks_sl3, wp_def, kkd_ret, kkd_next, kkdE, kkE, ws_for, wp_lc, wp_r1, kk_r1, wp_r2, kk_r2, wp_il, wp_it, wp_ie, wp_iz, kk_il, kk_il2, kk_it, kk_it2, kk_ie, kk_ie2, kk_iz, kk_iz2, lAt_k, k_lAtL, k_lAtO, k_lAtT, wp_int, wp_add, wp_addI, wp_sub, wp_neg, wp_lt, wp_le, wp_gt, wp_ge, wp_max2, wp_min2, wp_abs, wp_mulI, wp_mul, wp_fdiv, wp_mod, wp_shl, wp_shr, wp_pow, wp_isN, wp_notN, wp_eqI, wp_neI, wp_ix, kk_ix, kk_ix2, wp_len, kk_lenL, kk_lenT, kk_lenO, kk_lenP, wp_appd, kk_app1, isL_k, kk_isL, startI_cons, startI_nil, rep_succ, rep_zero, List.getElem?_cons_zero, List.getElem?_cons_succ, List.set_cons_zero, List.set_cons_succ, f_call, m_var, List.append_nil, List.nil_append, List.cons_append, List.length_cons, List.length_nil, if_true, if_false, g_tup, g_lst, g_cons, g_nil, g_nm, Option.bind_some, kks_g, atI_0, atI_1, atI_2, atI_3, atI_4, atI_5, atI_6, atI_7, atI_8, atI_9, atI_10, atI_11, atI_12, atI_last, cutI_1, ixN_30, ixN_31, ixN_32, Int.toNat_zero, Int.reduceToNat, Int.reduceNeg, xs_lst, xs_tup, xs_ro, xs_rot, isL_lst, isL_tup, isL_ro, isL_rot, isT_tup, isT_rot, Bool.false_eq_true, Bool.true_eq_false, Bool.not_true, Bool.not_false, decide_true, decide_false, Int.reduceLT, Int.reduceLE, Nat.reduceLT, Nat.reduceLeDiff, Nat.reduceAdd, Nat.reduceEqDiff, Bool.not_eq_true, true_and, and_true, and_self, eq_self, g_new, g_nw, g_old, g_set, g_sne, List.length_set, List.length_append, wp_r3, kk_r3, Int.cast_ofNat_Int, Int.reduceEq, Int.natCast_zero, Int.natCast_one, ws_whileA, wp_isiII, wp_isiIB, wp_isiI_list, wp_isiI_tuple, wp_isiI_str, wp_isiR, tyO_l, tyO_t, kk_isi, kk_isi2, kit_ll, kit_tt, kit_lt, kit_tl, wp_isiN, wp_isiBl, wp_isiS, tyO_d, kit2_NoneType_int, kit2_NoneType_bool, kit2_NoneType_list, kit2_NoneType_tuple, kit2_NoneType_str, kit2_bool_int, kit2_bool_bool, kit2_bool_list, kit2_bool_tuple, kit2_bool_str, kit2_str_int, kit2_str_bool, kit2_str_list, kit2_str_tuple, kit2_str_str, kit2_dict_int, kit2_dict_bool, kit2_dict_list, kit2_dict_tuple, kit2_dict_str, kit2_list_int, kit2_list_bool, kit2_list_str, kit2_tuple_int, kit2_tuple_bool, kit2_tuple_str, kit2_int_list, kit2_int_tuple, kit2_int_str, kf_next, kf_cont, kf_brk, kf_ret, wipeI, ↓reduceIte, *])
def ce (n m : Int) : Int := 0 - (0 - n) / m
theorem q_up (c : Cs) {n m : Int} (h : 0 < m) (hb : B 8000 m) (ih : IH) (Q : PQ IV) (E : EQ) : wp (m_round_up c [.int n, .int m] ih) Q E = Q (.int (ce n m)) ih := by
  have a : cDiv (0 - n) m = true := cDiv_of h hb (by decide) (by decide)
  have e : ce n m = 0 - (0 - n) / m := rfl
  unfold m_round_up b_round_up
  walk_at "run"
theorem ce_spec {n m : Int} (h : 0 < m) : n ≤ ce n m * m ∧ (ce n m - 1) * m < n := by
  unfold ce
  have h1 := Int.emod_def (0 - n) m
  have h2 := Int.emod_nonneg (0 - n) (Int.ne_of_gt h)
  have h3 := Int.emod_lt_of_pos (0 - n) h
  have e1 : (0 - (0 - n) / m) * m = -(m * ((0 - n) / m)) := by rw [Int.zero_sub, Int.neg_mul, Int.mul_comm]
  have e2 : (0 - (0 - n) / m - 1) * m = -(m * ((0 - n) / m)) - m := by rw [Int.sub_mul, e1, Int.one_mul]
  rw [e1, e2]
  omega
theorem ce_nn {n m : Int} (h : 0 < m) (hn : 0 ≤ n) : 0 ≤ ce n m := by
  unfold ce
  have h1 := Int.emod_def (0 - n) m
  have h2 := Int.emod_nonneg (0 - n) (Int.ne_of_gt h)
  by_cases hq : 1 ≤ (0 - n) / m
  · have := Int.mul_le_mul_of_nonneg_left hq (Int.le_of_lt h)
    omega
  · omega
theorem filter_head {n : Nat} {T : Nat → Bool} {a : Nat} (h : a < n) (ht : T a = true) (hf : ∀ k, k < a → T k = false) : ((List.range n).filter T)[0]? = some a := by
  rw [← List.head?_eq_getElem?, List.head?_filter]
  refine List.find?_range_eq_some.mpr ⟨ht, List.mem_range.mpr h, fun k hk => ?_⟩
  rw [hf k hk]
  rfl
theorem filter_last {T : Nat → Bool} {a : Nat} (ht : T a = true) : ∀ {n : Nat}, a < n → (∀ k, a < k → k < n → T k = false) → (List.range n).filter T = (List.range a).filter T ++ [a]
  | 0, h, _ => by omega
  | n + 1, h, hf => by
    rw [List.range_succ, List.filter_append]
    by_cases e : a = n
    · subst e
      simp [ht]
    · rw [filter_last ht (show a < n by omega) fun k h1 h2 => hf k h1 (by omega)]
      simp [hf n (by omega) (by omega)]
end L3
/-! RS: rates seen. -/
namespace L3
open PySem PySem.Spec PyProof.Rows L2
local macro_rules | `(tactic| walk_at "get") => `(tactic| simp (disch := first | assumption | omega | (simp only [List.length_append, List.length_set, List.length_cons, List.length_nil, List.length_map] <;> omega) | fail) only [g_new, g_nw, g_old, g_set, g_sne, List.length_append, List.length_set, List.length_cons, List.length_nil, List.length_map, List.map_map, Function.comp_def, xs_lst, xs_tup, isL_lst, isL_tup, ↓reduceIte, *])
local macro_rules | `(tactic| walk_at "fr") => `(tactic| first | (intro _ _ _; simp (disch := first | assumption | omega | (simp only [List.length_append, List.length_set, List.length_cons, List.length_nil, List.length_map] <;> omega) | fail) only [g_new, g_nw, g_old, g_set, g_sne, List.length_append, List.length_set, List.length_cons, List.length_nil, List.length_map, List.map_map, Function.comp_def, xs_lst, xs_tup, isL_lst, isL_tup, ↓reduceIte, *]) | (intro _ _; simp (disch := first | assumption | omega | (simp only [List.length_append, List.length_set, List.length_cons, List.length_nil, List.length_map] <;> omega) | fail) only [g_new, g_nw, g_old, g_set, g_sne, List.length_append, List.length_set, List.length_cons, List.length_nil, List.length_map, List.map_map, Function.comp_def, xs_lst, xs_tup, isL_lst, isL_tup, ↓reduceIte, *]))
local macro_rules | `(tactic| walk_at "run") => `(tactic| simp -implicitDefEqProofs (disch := first | assumption | omega | (simp only [List.length_append, List.length_set, List.length_cons, List.length_nil, List.length_map] <;> omega) | fail) only [wp_ok, wp_exc, wp_stuck, ws_ok, ws_exc, ws_stuck, wp_op, kk_op, kk_un, wp_un, wp_cons, kk_cons, kk_cons2, wp_nil, wp_c, wp_app, wp_if, kk_if1, kk_if0, wp_and, kk_and1, kk_and0, wp_or, kk_or1, kk_or0, wp_not, kk_not, wp_tb, kk_tb, wp_andV, kk_andV1, kk_andV0, wp_orV, kk_orV1, kk_orV0, wp_notV, kk_notV, wp_noneS, wp_some, kk_some, wp_sl, kk_sl, kk_sl2, kk_sl3, wp_mL, kk_mL, kk_mL2, wp_mL0, kk_mL0, wp_chain, kk_ch, kk_ch2, kk_ch31, kk_ch30, ws_set, kks_nm, kks_g, kks_tup, kks_lst, ws_expr, kks_expr, ws_ret, kks_ret, ws_retN, ws_pass, ws_brk, ws_cont, ws_raise, ws_if, kks_if1, kks_if0, ws_seq, kks_next, kks_retS, kks_brk, kks_cont, kk_augE, ws_aug, kks_aug, kks_aug2, ws_par, kks_par, ws_setL, kks_sl, kks_sl2, kks_sl3, wp_def, kkd_ret, kkd_next, kkdE, kkE, ws_for, wp_lc, wp_r1, kk_r1, wp_r2, kk_r2, wp_il, wp_it, wp_ie, wp_iz, kk_il, kk_il2, kk_it, kk_it2, kk_ie, kk_ie2, kk_iz, kk_iz2, lAt_k, k_lAtL, k_lAtO, k_lAtT, wp_int, wp_add, wp_addI, wp_sub, wp_neg, wp_lt, wp_le, wp_gt, wp_ge, wp_max2, wp_min2, wp_abs, wp_mulI, wp_mul, wp_fdiv, wp_mod, wp_shl, wp_shr, wp_pow, wp_isN, wp_notN, wp_eqI, wp_neI, wp_ix, kk_ix, kk_ix2, wp_len, kk_lenL, kk_lenT, kk_lenO, kk_lenP, wp_appd, kk_app1, isL_k, kk_isL, startI_cons, startI_nil, rep_succ, rep_zero, List.getElem?_cons_zero, List.getElem?_cons_succ, List.set_cons_zero, List.set_cons_succ, f_call, m_var, List.append_nil, List.nil_append, List.cons_append, List.length_cons, List.length_nil, if_true, if_false, g_tup, g_lst, g_cons, g_nil, g_nm, Option.bind_some, kks_g, atI_0, atI_1, atI_2, atI_3, atI_4, atI_5, atI_6, atI_7, atI_8, atI_9, atI_10, atI_11, atI_12, atI_last, cutI_1, ixN_30, ixN_31, ixN_32, Int.toNat_zero, Int.reduceToNat, Int.reduceNeg, xs_lst, xs_tup, xs_ro, xs_rot, isL_lst, isL_tup, isL_ro, isL_rot, isT_tup, isT_rot, Bool.false_eq_true, Bool.true_eq_false, Bool.not_true, Bool.not_false, decide_true, decide_false, Int.reduceLT, Int.reduceLE, Nat.reduceLT, Nat.reduceLeDiff, Nat.reduceAdd, Nat.reduceEqDiff, Bool.not_eq_true, true_and, and_true, and_self, eq_self, g_new, g_nw, g_old, g_set, g_sne, List.length_set, List.length_append, wp_r3, kk_r3, Int.cast_ofNat_Int, Int.reduceEq, Int.natCast_zero, Int.natCast_one, ws_whileA, wp_isiII, wp_isiIB, wp_isiI_list, wp_isiI_tuple, wp_isiI_str, wp_isiR, tyO_l, tyO_t, kk_isi, kk_isi2, kit_ll, kit_tt, kit_lt, kit_tl, wp_isiN, wp_isiBl, wp_isiS, tyO_d, kit2_NoneType_int, kit2_NoneType_bool, kit2_NoneType_list, kit2_NoneType_tuple, kit2_NoneType_str, kit2_bool_int, kit2_bool_bool, kit2_bool_list, kit2_bool_tuple, kit2_bool_str, kit2_str_int, kit2_str_bool, kit2_str_list, kit2_str_tuple, kit2_str_str, kit2_dict_int, kit2_dict_bool, kit2_dict_list, kit2_dict_tuple, kit2_dict_str, kit2_list_int, kit2_list_bool, kit2_list_str, kit2_tuple_int, kit2_tuple_bool, kit2_tuple_str, kit2_int_list, kit2_int_tuple, kit2_int_str, kf_next, kf_cont, kf_brk, kf_ret, wipeI, ↓reduceIte, *])
def Ok1 (s m : Int) (a b : Int × Int) : Prop := a.2 * s - m * a.1 ≤ b.2 * s + s - 1 - m * b.1
def PO (s m : Int) (a b : Int × Int) : Prop := Ok1 s m a b ∧ Ok1 s m b a
def Fit (s : Int) (L : List (Int × Int)) (m : Int) : Prop := ∀ a ∈ L, ∀ b ∈ L, Ok1 s m a b
def AllEq (L : List (Int × Int)) : Prop := ∀ a ∈ L, ∀ b ∈ L, a = b
def In (l : Int) (g : Option Int) (m : Int) : Prop := l ≤ m ∧ ∀ G, g = some G → m ≤ G
theorem PO.symm {s m : Int} {a b : Int × Int} (h : PO s m a b) : PO s m b a := ⟨h.2, h.1⟩
theorem ok_self {s m : Int} (hs : 1 ≤ s) (a : Int × Int) : Ok1 s m a a := by
  unfold Ok1
  omega
theorem Fit.snoc {s m : Int} (hs : 1 ≤ s) {L : List (Int × Int)} {o : Int × Int} : Fit s (L ++ [o]) m ↔ Fit s L m ∧ ∀ r ∈ L, PO s m r o := by
  constructor
  · intro h
    refine ⟨fun a ha b hb => h a (List.mem_append_left _ ha) b (List.mem_append_left _ hb), fun r hr => ⟨h r (List.mem_append_left _ hr) o (by simp), h o (by simp) r (List.mem_append_left _ hr)⟩⟩
  · intro h a ha b hb
    rcases List.mem_append.mp ha with x | x <;> rcases List.mem_append.mp hb with y | y
    · exact h.1 a x b y
    · rw [List.mem_singleton.mp y]
      exact (h.2 a x).1
    · rw [List.mem_singleton.mp x]
      exact (h.2 b y).2
    · rw [List.mem_singleton.mp x, List.mem_singleton.mp y]
      exact ok_self hs _
theorem AllEq.snoc {L : List (Int × Int)} {o : Int × Int} : AllEq (L ++ [o]) ↔ AllEq L ∧ ∀ r ∈ L, r = o := by
  constructor
  · intro h
    exact ⟨fun a ha b hb => h a (List.mem_append_left _ ha) b (List.mem_append_left _ hb), fun r hr => h r (List.mem_append_left _ hr) o (by simp)⟩
  · intro h a ha b hb
    rcases List.mem_append.mp ha with x | x <;> rcases List.mem_append.mp hb with y | y
    · exact h.1 a x b y
    · rw [List.mem_singleton.mp y]
      exact h.2 a x
    · rw [List.mem_singleton.mp x]
      exact (h.2 b y).symm
    · rw [List.mem_singleton.mp x, List.mem_singleton.mp y]
theorem ce_le {n d m : Int} (h : 0 < d) : ce n d ≤ m ↔ n ≤ m * d := by
  obtain ⟨k1, k2⟩ := ce_spec (n := n) h
  constructor
  · intro h1
    have := Int.mul_le_mul_of_nonneg_right h1 (Int.le_of_lt h)
    omega
  · intro h1
    have h2 : (ce n d - 1) * d < m * d := by omega
    have := Int.lt_of_mul_lt_mul_right h2 (Int.le_of_lt h)
    omega
/-- what a pair leaves -/
def nar (s l : Int) (g : Option Int) (a b : Int × Int) : Int × Option Int :=
  if b.1 - a.1 = 0 then (l, if b.2 - a.2 = 0 then g else some 0)
  else (if ce ((b.2 - a.2 - 1) * s + 1) (b.1 - a.1) > l then ce ((b.2 - a.2 - 1) * s + 1) (b.1 - a.1) else l, match g with
    | none => some (((b.2 - a.2 + 1) * s - 1) / (b.1 - a.1))
    | some G => some (if ((b.2 - a.2 + 1) * s - 1) / (b.1 - a.1) < G then ((b.2 - a.2 + 1) * s - 1) / (b.1 - a.1) else G))
/-- what is known of the bounds -/
structure St (C : Int → Prop) (e : Prop) (l : Int) (g : Option Int) : Prop where
  inn : ∀ m, 1 ≤ m → (In l g m ↔ C m)
  one : 1 ≤ l
  non : g = none ↔ e
theorem St.imp {C C' : Int → Prop} {e e' : Prop} {l : Int} {g : Option Int} (h : St C e l g) (hc : ∀ m, 1 ≤ m → (C m ↔ C' m)) (he : e ↔ e') : St C' e' l g := ⟨fun m hm => (h.inn m hm).trans (hc m hm), h.one, h.non.trans he⟩
def LexLe (a b : Int × Int) : Prop := a.1 < b.1 ∨ (a.1 = b.1 ∧ a.2 ≤ b.2)
theorem nar_st {s l : Int} {g : Option Int} {a b : Int × Int} {C : Int → Prop} {e : Prop} (hs : 1 ≤ s) (h : St C e l g) (hab : LexLe a b) : St (fun m => C m ∧ PO s m a b) (e ∧ a = b) (nar s l g a b).1 (nar s l g a b).2 := by
  unfold nar
  by_cases hd : b.1 - a.1 = 0
  · rw [if_pos hd]
    have e1 : a.1 = b.1 := by omega
    by_cases hg : b.2 - a.2 = 0
    · have e2 : a.2 = b.2 := by omega
      have eab : a = b := Prod.ext e1 e2
      rw [if_pos hg]
      subst eab
      refine ⟨fun m hm => ?_, h.one, ?_⟩
      · rw [h.inn m hm]
        exact ⟨fun c => ⟨c, ok_self hs _, ok_self hs _⟩, fun c => c.1⟩
      · rw [h.non]
        exact ⟨fun c => ⟨c, rfl⟩, fun c => c.1⟩
    · rw [if_neg hg]
      refine ⟨fun m hm => ⟨fun c => ?_, fun c => ?_⟩, h.one, ⟨(fun c => nomatch c), fun c => ?_⟩⟩
      · have := c.2 0 rfl
        omega
      · exfalso
        have h2 := c.2.2
        unfold Ok1 at h2
        rw [e1] at h2
        have h3 : a.2 + 1 ≤ b.2 := by
          rcases hab with h | h <;> omega
        have := Int.mul_le_mul_of_nonneg_right h3 (show 0 ≤ s by omega)
        rw [Int.add_mul] at this
        omega
      · rw [c.2] at hg
        omega
  · rw [if_neg hd]
    have D : 0 < b.1 - a.1 := by rcases hab with h | h <;> omega
    have up : ∀ m, m ≤ ((b.2 - a.2 + 1) * s - 1) / (b.1 - a.1) ↔ Ok1 s m a b := fun m => by
      rw [Int.le_ediv_iff_mul_le D]
      unfold Ok1
      rw [Int.mul_sub, Int.add_mul, Int.sub_mul]
      constructor <;> intro h <;> omega
    have dn : ∀ m, ce ((b.2 - a.2 - 1) * s + 1) (b.1 - a.1) ≤ m ↔ Ok1 s m b a := fun m => by
      rw [ce_le D]
      unfold Ok1
      rw [Int.mul_sub, Int.sub_mul, Int.sub_mul]
      constructor <;> intro h <;> omega
    obtain ⟨M, eM⟩ : ∃ M, ((b.2 - a.2 + 1) * s - 1) / (b.1 - a.1) = M := ⟨_, rfl⟩
    obtain ⟨N, eN⟩ : ∃ N, ce ((b.2 - a.2 - 1) * s + 1) (b.1 - a.1) = N := ⟨_, rfl⟩
    rw [eM] at up ⊢
    rw [eN] at dn ⊢
    have ho := h.one
    have l1 : ∀ m, (if N > l then N else l) ≤ m ↔ l ≤ m ∧ N ≤ m := fun m => by split <;> constructor <;> intro h <;> omega
    refine ⟨fun m hm => ?_, by dsimp only; split <;> omega, ?_⟩
    · have hi := h.inn m hm
      unfold In at hi ⊢
      dsimp only
      rw [l1 m]
      show _ ↔ C m ∧ Ok1 s m a b ∧ Ok1 s m b a
      rw [← hi, ← up m, ← dn m]
      cases g with
      | none =>
        constructor
        · rintro ⟨⟨c1, c2⟩, c3⟩
          exact ⟨⟨c1, fun G hG => nomatch hG⟩, c3 M rfl, c2⟩
        · rintro ⟨⟨c1, _⟩, c3, c2⟩
          exact ⟨⟨c1, c2⟩, fun G hG => by cases hG; exact c3⟩
      | some G =>
        constructor
        · rintro ⟨⟨c1, c2⟩, c3⟩
          have := c3 _ rfl
          refine ⟨⟨c1, fun G' hG => ?_⟩, ?_, c2⟩
          · cases hG
            split at this <;> omega
          · split at this <;> omega
        · rintro ⟨⟨c1, c4⟩, c3, c2⟩
          have := c4 _ rfl
          refine ⟨⟨c1, c2⟩, fun G' hG => ?_⟩
          cases hG
          split <;> omega
    · constructor
      · intro c
        cases g <;> cases c
      · rintro ⟨_, c⟩
        rw [c] at hd
        omega
theorem wp_sort2 {Q : PQ IV} {E : EQ} {ih : IH} {n s t : Nat} {r1 r2 : Int × Int} (h : ih[n]? = some (.lst [.ref s, .ref t])) (hs : ih[s]? = some (.tup [.int r1.1, .int r1.2])) (ht : ih[t]? = some (.tup [.int r2.1, .int r2.2]))
    (q : ∀ (x y : Nat) (a b : Int × Int), ih[x]? = some (.tup [.int a.1, .int a.2]) → ih[y]? = some (.tup [.int b.1, .int b.2]) → LexLe a b → ((a = r1 ∧ b = r2) ∨ (a = r2 ∧ b = r1)) → Q (.ref ih.length) (ih ++ [.lst [.ref x, .ref y]])) : wp (f_sortP [.ref n] ih) Q E :=
  wp_sortP2 h hs ht (fun hh => q t s r2 r1 ht hs (by unfold LexLe; omega) (.inr ⟨rfl, rfl⟩)) fun hh => q s t r1 r2 hs ht (by unfold LexLe; omega) (.inl ⟨rfl, rfl⟩)
theorem w_nar (c : Cs) {t1 t2 : Nat} {r1 r2 : Int × Int} {h l : Int} {g : Option Int} {ih : IH} {Q : PQ IV} {E : EQ} {C : Int → Prop} {e : Prop} (h0 : 0 ≤ h) (h1 : h ≤ 64) (g1 : ih[t1]? = some (.tup [.int r1.1, .int r1.2])) (g2 : ih[t2]? = some (.tup [.int r2.1, .int r2.2]))
    (B1 : B 400 r1.1 ∧ B 400 r1.2) (B2 : B 400 r2.1 ∧ B 400 r2.2) (st : St C e l g)
    (k : ∀ t l' g' ih', St (fun m => C m ∧ PO (2 ^ h.toNat) m r1 r2) (e ∧ r1 = r2) l' g' → ih'[t]? = some (.tup [.int l', ofO g']) → ih.length ≤ t → Fx ih ih' → ih.length ≤ ih'.length → Q (.ref t) ih') : wp (m_narrowed c [.int h, .int l, ofO g, .ref t1, .ref t2] ih) Q E := by
  have hs := pow_pos h
  obtain ⟨s, es⟩ : ∃ s : Int, 2 ^ h.toNat = s := ⟨_, rfl⟩
  rw [es] at hs k
  unfold m_narrowed b_narrowed
  walk_at "run"
  refine wp_lst (by simp) (newN fun q ih1 q1 q2 l1 f1 n1 => ?_)
  walk_at "run"
  refine wp_sort2 n1 (by rw [f1 t1 (lt_of_get g1)]; exact g1) (by rw [f1 t2 (lt_of_get g2)]; exact g2) fun x y a b gx gy hab hor => newN fun z ih2 z1 z2 l2 f2 n2 => ?_
  have ab : (B 400 a.1 ∧ B 400 a.2) ∧ (B 400 b.1 ∧ B 400 b.2) := by rcases hor with ⟨rfl, rfl⟩ | ⟨rfl, rfl⟩ <;> exact ⟨by assumption, by assumption⟩
  have st' := nar_st (by omega : 1 ≤ s) st hab
  have kk : ∀ t ih', ih'[t]? = some (.tup [.int (nar s l g a b).1, ofO (nar s l g a b).2]) → ih.length ≤ t → Fx ih ih' → ih.length ≤ ih'.length → Q (.ref t) ih' := fun t ih' => k t _ _ ih' (st'.imp (fun m hm => by
    rcases hor with ⟨rfl, rfl⟩ | ⟨rfl, rfl⟩
    · exact Iff.rfl
    · exact ⟨fun ⟨c1, c2⟩ => ⟨c1, c2.symm⟩, fun ⟨c1, c2⟩ => ⟨c1, c2.symm⟩⟩) (by
    rcases hor with ⟨rfl, rfl⟩ | ⟨rfl, rfl⟩
    · exact Iff.rfl
    · exact ⟨fun ⟨c1, c2⟩ => ⟨c1, c2.symm⟩, fun ⟨c1, c2⟩ => ⟨c1, c2.symm⟩⟩))
  have gx2 : ih2[x]? = some (.tup [.int a.1, .int a.2]) := by rw [f2 x (lt_of_get gx)]; exact gx
  have gy2 : ih2[y]? = some (.tup [.int b.1, .int b.2]) := by rw [f2 y (lt_of_get gy)]; exact gy
  have fx := f1.trans f2 (by omega)
  have lx : ih.length ≤ ih2.length := by omega
  have L1 : LexLe a b := hab
  clear k st' st f1 f2 n1 gx gy hor g1 g2 l1 l2 q1 q2 z1
  unfold nar at kk
  obtain ⟨⟨A1, A2⟩, A3, A4⟩ := ab
  have GB : B 401 (b.2 - a.2) := B.sub A4 A2
  have DB : B 401 (b.1 - a.1) := B.sub A3 A1
  obtain ⟨a1, a2⟩ := a
  obtain ⟨b1, b2⟩ := b
  dsimp only at *
  obtain ⟨D, eD⟩ : ∃ D, b1 - a1 = D := ⟨_, rfl⟩
  obtain ⟨G, eG⟩ : ∃ G, b2 - a2 = G := ⟨_, rfl⟩
  rw [eD] at kk DB
  rw [eG] at kk GB
  have D0 : D = 0 ∨ 0 < D := by
    unfold LexLe at L1
    dsimp only at L1
    omega
  have c1 : cShl (G + 1) h = true := by
    obtain ⟨k, rfl⟩ := Int.eq_ofNat_of_zero_le h0
    exact cShl_of (B.add GB (lit 401)) (by omega)
  have c2 : cShl (G - 1) h = true := by
    obtain ⟨k, rfl⟩ := Int.eq_ofNat_of_zero_le h0
    exact cShl_of (B.sub GB (lit 401)) (by omega)
  have dn : decide (IV.non = IV.non) = true := rfl
  have di : ∀ i, decide (IV.int i = IV.non) = false := fun _ => rfl
  have on : ofO none = .non := rfl
  have os : ∀ i, ofO (some i) = .int i := fun _ => rfl
  by_cases hD : D = 0
  · have d1 := decide_eq_true hD
    rw [if_pos hD] at kk
    clear L1 A1 A2 A3 A4 GB DB D0
    by_cases hG : G = 0
    · have d2 := decide_eq_true hG
      rw [if_pos hG] at kk
      clear hG hD
      walk_at "run"
      refine wp_tup (by simp) (newN fun t ih3 t1 t2 l3 f3 n3 => ?_)
      have kz := kk t ih3 n3 (by omega) (fx.trans f3 lx) (by omega)
      exact kz
    · have d2 := decide_eq_false hG
      rw [if_neg hG] at kk
      clear hG hD
      walk_at "run"
      refine wp_tup (by simp) (newN fun t ih3 t1 t2 l3 f3 n3 => ?_)
      have kz := kk t ih3 n3 (by omega) (fx.trans f3 lx) (by omega)
      exact kz
  · have d1 := decide_eq_false hD
    rw [if_neg hD] at kk
    have c3 : ∀ x, cDiv x D = true := fun x => cDiv_of (by omega) DB (by decide) (by decide)
    have u := fun n => q_up c (n := n) (m := D) (by omega) (DB.mono (by decide))
    clear L1 A1 A2 A3 A4 GB DB D0 hD
    cases g with
    | none =>
      dsimp only at kk
      walk_at "run"
      refine wp_tup (by simp) (newN fun t ih3 t1 t2 l3 f3 n3 => ?_)
      have kz := kk t ih3 n3 (by omega) (fx.trans f3 lx) (by omega)
      exact kz
    | some GG =>
      dsimp only at kk
      walk_at "run"
      refine wp_tup (by simp) (newN fun t ih3 t1 t2 l3 f3 n3 => ?_)
      have kz := kk t ih3 n3 (by omega) (fx.trans f3 lx) (by omega)
      exact kz
end L3
/-! RS2: rates seen, the loops. -/
namespace L3
open PySem PySem.Spec PyProof.Rows L2
local macro_rules | `(tactic| walk_at "get") => `(tactic| simp (disch := first | assumption | omega | (simp only [List.length_append, List.length_set, List.length_cons, List.length_nil, List.length_map] <;> omega) | fail) only [g_new, g_nw, g_old, g_set, g_sne, List.length_append, List.length_set, List.length_cons, List.length_nil, List.length_map, List.map_map, Function.comp_def, xs_lst, xs_tup, isL_lst, isL_tup, ↓reduceIte, *])
local macro_rules | `(tactic| walk_at "fr") => `(tactic| first | (intro _ _ _; simp (disch := first | assumption | omega | (simp only [List.length_append, List.length_set, List.length_cons, List.length_nil, List.length_map] <;> omega) | fail) only [g_new, g_nw, g_old, g_set, g_sne, List.length_append, List.length_set, List.length_cons, List.length_nil, List.length_map, List.map_map, Function.comp_def, xs_lst, xs_tup, isL_lst, isL_tup, ↓reduceIte, *]) | (intro _ _; simp (disch := first | assumption | omega | (simp only [List.length_append, List.length_set, List.length_cons, List.length_nil, List.length_map] <;> omega) | fail) only [g_new, g_nw, g_old, g_set, g_sne, List.length_append, List.length_set, List.length_cons, List.length_nil, List.length_map, List.map_map, Function.comp_def, xs_lst, xs_tup, isL_lst, isL_tup, ↓reduceIte, *]))
local macro_rules | `(tactic| walk_at "run") => `(tactic| simp -implicitDefEqProofs (disch := first | assumption | omega | (simp only [List.length_append, List.length_set, List.length_cons, List.length_nil, List.length_map] <;> omega) | fail) only [wp_ok, wp_exc, wp_stuck, ws_ok, ws_exc, ws_stuck, wp_op, kk_op, kk_un, wp_un, wp_cons, kk_cons, kk_cons2, wp_nil, wp_c, wp_app, wp_if, kk_if1, kk_if0, wp_and, kk_and1, kk_and0, wp_or, kk_or1, kk_or0, wp_not, kk_not, wp_tb, kk_tb, wp_andV, kk_andV1, kk_andV0, wp_orV, kk_orV1, kk_orV0, wp_notV, kk_notV, wp_noneS, wp_some, kk_some, wp_sl, kk_sl, kk_sl2, kk_sl3, wp_mL, kk_mL, kk_mL2, wp_mL0, kk_mL0, wp_chain, kk_ch, kk_ch2, kk_ch31, kk_ch30, ws_set, kks_nm, kks_g, kks_tup, kks_lst, ws_expr, kks_expr, ws_ret, kks_ret, ws_retN, ws_pass, ws_brk, ws_cont, ws_raise, ws_if, kks_if1, kks_if0, ws_seq, kks_next, kks_retS, kks_brk, kks_cont, kk_augE, ws_aug, kks_aug, kks_aug2, ws_par, kks_par, ws_setL, kks_sl, kks_sl2, kks_sl3, wp_def, kkd_ret, kkd_next, kkdE, kkE, ws_for, wp_lc, wp_r1, kk_r1, wp_r2, kk_r2, wp_il, wp_it, wp_ie, wp_iz, kk_il, kk_il2, kk_it, kk_it2, kk_ie, kk_ie2, kk_iz, kk_iz2, lAt_k, k_lAtL, k_lAtO, k_lAtT, wp_int, wp_add, wp_addI, wp_sub, wp_neg, wp_lt, wp_le, wp_gt, wp_ge, wp_max2, wp_min2, wp_abs, wp_mulI, wp_mul, wp_fdiv, wp_mod, wp_shl, wp_shr, wp_pow, wp_isN, wp_notN, wp_eqI, wp_neI, wp_ix, kk_ix, kk_ix2, wp_len, kk_lenL, kk_lenT, kk_lenO, kk_lenP, wp_appd, kk_app1, isL_k, kk_isL, startI_cons, startI_nil, rep_succ, rep_zero, List.getElem?_cons_zero, List.getElem?_cons_succ, List.set_cons_zero, List.set_cons_succ, f_call, m_var, List.append_nil, List.nil_append, List.cons_append, List.length_cons, List.length_nil, if_true, if_false, g_tup, g_lst, g_cons, g_nil, g_nm, Option.bind_some, kks_g, atI_0, atI_1, atI_2, atI_3, atI_4, atI_5, atI_6, atI_7, atI_8, atI_9, atI_10, atI_11, atI_12, atI_last, cutI_1, ixN_30, ixN_31, ixN_32, Int.toNat_zero, Int.reduceToNat, Int.reduceNeg, xs_lst, xs_tup, xs_ro, xs_rot, isL_lst, isL_tup, isL_ro, isL_rot, isT_tup, isT_rot, Bool.false_eq_true, Bool.true_eq_false, Bool.not_true, Bool.not_false, decide_true, decide_false, Int.reduceLT, Int.reduceLE, Nat.reduceLT, Nat.reduceLeDiff, Nat.reduceAdd, Nat.reduceEqDiff, Bool.not_eq_true, true_and, and_true, and_self, eq_self, g_new, g_nw, g_old, g_set, g_sne, List.length_set, List.length_append, wp_r3, kk_r3, Int.cast_ofNat_Int, Int.reduceEq, Int.natCast_zero, Int.natCast_one, ws_whileA, wp_isiII, wp_isiIB, wp_isiI_list, wp_isiI_tuple, wp_isiI_str, wp_isiR, tyO_l, tyO_t, kk_isi, kk_isi2, kit_ll, kit_tt, kit_lt, kit_tl, wp_isiN, wp_isiBl, wp_isiS, tyO_d, kit2_NoneType_int, kit2_NoneType_bool, kit2_NoneType_list, kit2_NoneType_tuple, kit2_NoneType_str, kit2_bool_int, kit2_bool_bool, kit2_bool_list, kit2_bool_tuple, kit2_bool_str, kit2_str_int, kit2_str_bool, kit2_str_list, kit2_str_tuple, kit2_str_str, kit2_dict_int, kit2_dict_bool, kit2_dict_list, kit2_dict_tuple, kit2_dict_str, kit2_list_int, kit2_list_bool, kit2_list_str, kit2_tuple_int, kit2_tuple_bool, kit2_tuple_str, kit2_int_list, kit2_int_tuple, kit2_int_str, kf_next, kf_cont, kf_brk, kf_ret, wipeI, ↓reduceIte, *])
theorem q_seen (c : Cs) {t : Nat} {a b : Int} {ih : IH} (g : ih[t]? = some (.tup [.int a, .int b])) (h : 0 ≤ a) (Q : PQ IV) (E : EQ) : wp (m_is_seen c [.ref t] ih) Q E = Q (.bl true) ih := by
  have a1 := q_whole c a 0
  have a2 := q_whole0 c b
  have e : decide (((0 : Nat) : Int) + 1 + 1 = 2) = true := rfl
  unfold m_is_seen b_is_seen
  walk_at "run"
abbrev RB (rs : List (Int × Int)) : Prop := ∀ r ∈ rs, 0 ≤ r.1 ∧ B 400 r.1 ∧ B 400 r.2
theorem w_inner (c : Cs) {i : Int} {h l : Int} {g : Option Int} {q sq t : Nat} {o : Int × Int} {ys : List IV} {ss : List (Int × Int)} {ih : IH} {a6 : Option IV} {S : SQ} {F : ES} {C : Int → Prop} {e : Prop} (h0 : 0 ≤ h) (h1 : h ≤ 64)
    (gs : ih[sq]? = some (.lst ys)) (pr : PR ih ys ss) (hb : RB ss) (gt : ih[t]? = some (.tup [.int o.1, .int o.2])) (oB : B 400 o.1 ∧ B 400 o.2) (st : St C e l g)
    (fin : ∀ l' g' a6 ih', St (fun m => C m ∧ ∀ r ∈ ss, PO (2 ^ h.toNat) m r o) (e ∧ ∀ r ∈ ss, r = o) l' g' → Fx ih ih' → ih.length ≤ ih'.length → S (.next [some (.int h), some (.ref q), some (.int l'), some (ofO g'), some (.int i), some (.ref t), a6]) ih') :
    ks_for (g_nm 6) (lb_rates_seen_1 c) [some (.int h), some (.ref q), some (.int l), some (ofO g), some (.int i), some (.ref t), a6] S F (.lst sq) ih := by
  have sl := lt_of_get gs
  have tl := lt_of_get gt
  refine for_lst1 (fun (j : Nat) (env : Env) (ih' : IH) => (∃ l g a6, env = [some (.int h), some (.ref q), some (.int l), some (ofO g), some (.int i), some (.ref t), a6] ∧ St (fun m => C m ∧ ∀ r ∈ ss.take j, PO (2 ^ h.toNat) m r o) (e ∧ ∀ r ∈ ss.take j, r = o) l g) ∧ Fx ih ih' ∧ ih.length ≤ ih'.length) gs rfl
    ⟨⟨_, _, _, rfl, st.imp (fun m _ => by simp) (by simp)⟩, Fx.refl, Nat.le_refl _⟩ (fun j env ih' hP => by rw [hP.2.1 sq sl]; exact gs) (fun j x env ih' hx hP => ?_) fun env ih' hP => ?_
  · obtain ⟨⟨l, g, b6, ee, st⟩, fx, lx⟩ := hP
    subst ee
    obtain ⟨u, r, rfl, hr, gu⟩ := pr.get (show ys[j]? = some x from hx)
    obtain ⟨r0, rB1, rB2⟩ := hb r (List.mem_of_getElem? hr)
    have gu' : ih'[u]? = some (.tup [.int r.1, .int r.2]) := by rw [fx u (lt_of_get gu)]; exact gu
    have gt' : ih'[t]? = some (.tup [.int o.1, .int o.2]) := by rw [fx t tl]; exact gt
    unfold lb_rates_seen_1
    clear gt gu gs
    walk_at "run"
    refine w_nar c h0 h1 gu' gt' ⟨rB1, rB2⟩ oB st fun w l' g' ih2 st2 gw w1 f2 l2 => ?_
    walk_at "run"
    refine Inv.mk ⟨⟨_, _, _, rfl, st2.imp (fun m _ => ?_) ?_⟩, fx.trans f2 lx, by omega⟩
    · rw [List.take_add_one, hr]
      constructor
      · rintro ⟨⟨c1, c2⟩, c3⟩
        refine ⟨c1, fun z hz => ?_⟩
        rcases List.mem_append.mp hz with hz | hz
        · exact c2 z hz
        · rw [Option.toList_some, List.mem_singleton] at hz
          rw [hz]
          exact c3
      · rintro ⟨c1, c2⟩
        exact ⟨⟨c1, fun z hz => c2 z (List.mem_append_left _ hz)⟩, c2 r (List.mem_append_right _ (by simp))⟩
    · rw [List.take_add_one, hr]
      constructor
      · rintro ⟨⟨c1, c2⟩, c3⟩
        refine ⟨c1, fun z hz => ?_⟩
        rcases List.mem_append.mp hz with hz | hz
        · exact c2 z hz
        · rw [Option.toList_some, List.mem_singleton] at hz
          rw [hz]
          exact c3
      · rintro ⟨c1, c2⟩
        exact ⟨⟨c1, fun z hz => c2 z (List.mem_append_left _ hz)⟩, c2 r (List.mem_append_right _ (by simp))⟩
  · obtain ⟨⟨l, g, b6, ee, st⟩, fx, lx⟩ := hP
    subst ee
    have e1 : ss.take (MO.lst ys).xs.length = ss := by rw [xs_lst, pr.len, List.take_length]
    rw [e1] at st
    exact fin l g b6 ih' st fx lx
/-- some multiplier fits the first ones -/
abbrev Some1 (s : Int) (rs : List (Int × Int)) (i : Nat) : Prop := ∃ m, 1 ≤ m ∧ Fit s (rs.take i) m
theorem w_outer (c : Cs) {h : Int} {q : Nat} {xs : List IV} {rs : List (Int × Int)} {ih : IH} {a4 a5 a6 : Option IV} {S : SQ} {F : ES} (h0 : 0 ≤ h) (h1 : h ≤ 64) (gq : ih[q]? = some (.lst xs)) (pr : PR ih xs rs) (hb : RB rs) (hl : rs.length ≤ 1000)
    (kn : ∀ (n : Nat) (z : Int) (t : Nat) ih', z = n → 1 ≤ n → n ≤ rs.length → (∀ m, 1 ≤ m → ¬ Fit (2 ^ h.toNat) (rs.take n) m) → (∀ i, 1 ≤ i → i < n → Some1 (2 ^ h.toNat) rs i) → ih'[t]? = some (.tup [.str "none", .int z]) → Fx ih ih' → ih.length ≤ ih'.length → S (.ret (.ref t)) ih')
    (kr : ∀ l g a4 a5 a6 ih', St (Fit (2 ^ h.toNat) rs) (AllEq rs) l g → (∀ i, 1 ≤ i → i ≤ rs.length → Some1 (2 ^ h.toNat) rs i) → Fx ih ih' → ih.length ≤ ih'.length → S (.next [some (.int h), some (.ref q), some (.int l), some (ofO g), a4, a5, a6]) ih') :
    ks_for (g_tup 2 (g_cons (g_nm 4) (g_cons (g_nm 5) g_nil))) (lb_rates_seen_2 c) [some (.int h), some (.ref q), some (.int 1), some .non, a4, a5, a6] S F (.enm q) ih := by
  have ql := lt_of_get gq
  have hs : (1 : Int) ≤ 2 ^ h.toNat := pow_pos h
  refine for_enum (fun (i : Nat) (env : Env) (ih' : IH) => (∃ l g a4 a5 a6, env = [some (.int h), some (.ref q), some (.int l), some (ofO g), a4, a5, a6] ∧ St (Fit (2 ^ h.toNat) (rs.take i)) (AllEq (rs.take i)) l g) ∧ (∀ k, 1 ≤ k → k ≤ i → Some1 (2 ^ h.toNat) rs k) ∧ Fx ih ih' ∧ ih.length ≤ ih'.length) gq rfl
    ⟨⟨1, none, _, _, _, rfl, ⟨fun m hm => ⟨fun _ a ha => by simp at ha, fun _ => ⟨hm, fun G hG => nomatch hG⟩⟩, Int.le_refl 1, ⟨fun _ a ha => by simp at ha, fun _ => rfl⟩⟩⟩, fun k k1 k2 => by omega, Fx.refl, Nat.le_refl _⟩ (fun j env ih' hP => by rw [hP.2.2.1 q ql]; exact gq) (fun i x env ih' hx hP => ?_) fun env ih' hP => ?_
  · obtain ⟨⟨l, g, b4, b5, b6, ee, st⟩, so, fx, lx⟩ := hP
    subst ee
    obtain ⟨u, o, rfl, hr, gu⟩ := pr.get (show xs[i]? = some x from hx)
    have il : i < rs.length := (List.getElem?_eq_some_iff.mp hr).1
    obtain ⟨r0, rB1, rB2⟩ := hb o (List.mem_of_getElem? hr)
    refine ⟨_, g_pair, ?_⟩
    obtain ⟨ih1, e1⟩ : ∃ ih1, ih' ++ [MO.tup [.int (i : Int), .ref u]] = ih1 := ⟨_, rfl⟩
    have f1 : Fx ih' ih1 := by rw [← e1]; exact Fx.app
    have l1 : ih'.length ≤ ih1.length := by rw [← e1]; simp
    rw [e1]
    have F1 := fx.trans f1 lx
    have gq1 : ih1[q]? = some (.lst xs) := by rw [F1 q ql]; exact gq
    have gu1 : ih1[u]? = some (.tup [.int o.1, .int o.2]) := by rw [F1 u (lt_of_get gu)]; exact gu
    have pr1 := pr.fx F1
    unfold lb_rates_seen_2
    clear e1 gq gu fx f1
    walk_at "run"
    refine wp_slL gq1 (newN fun sq ih2 s1 s2 l2 f2 n2 => ?_)
    rw [cutI_take (by rw [pr.len]; omega)] at n2
    walk_at "run"
    refine w_inner c h0 h1 n2 ((pr1.take i).fx f2) (fun r hr => hb r (List.mem_of_mem_take hr)) (by rw [f2 u (lt_of_get gu1)]; exact gu1) ⟨rB1, rB2⟩ st fun l' g' c6 ih3 st3 f3 l3 => ?_
    have et : rs.take (i + 1) = rs.take i ++ [o] := by rw [List.take_add_one, hr]; rfl
    have st4 : St (Fit (2 ^ h.toNat) (rs.take (i + 1))) (AllEq (rs.take (i + 1))) l' g' := st3.imp (fun m _ => by rw [et, Fit.snoc hs]) (by rw [et, AllEq.snoc])
    have F3 := (F1.trans f2 (by omega)).trans f3 (by omega)
    have L3' : ih.length ≤ ih3.length := by omega
    have dn : decide (IV.non = IV.non) = true := rfl
    have di : ∀ i, decide (IV.int i = IV.non) = false := fun _ => rfl
    have on : ofO none = .non := rfl
    have os : ∀ i, ofO (some i) = .int i := fun _ => rfl
    have next : (∃ m, 1 ≤ m ∧ In l' g' m) → ∀ k, 1 ≤ k → k ≤ i + 1 → Some1 (2 ^ h.toNat) rs k := fun ⟨m, m1, m2⟩ k k1 k2 => by
      by_cases hk : k ≤ i
      · exact so k k1 hk
      · have : k = i + 1 := by omega
        subst this
        exact ⟨m, m1, (st4.inn m m1).mp m2⟩
    clear st3 st f2 f3 n2 gq1 gu1 pr1 F1 hs et
    cases g' with
    | none =>
      have nx := next ⟨l', st4.one, Int.le_refl _, fun G hG => nomatch hG⟩
      have iv : Inv (fun (env : Env) (ih' : IH) => (∃ l g a4 a5 a6, env = [some (.int h), some (.ref q), some (.int l), some (ofO g), a4, a5, a6] ∧ St (Fit (2 ^ h.toNat) (rs.take (i + 1))) (AllEq (rs.take (i + 1))) l g) ∧ (∀ k, 1 ≤ k → k ≤ i + 1 → Some1 (2 ^ h.toNat) rs k) ∧ Fx ih ih' ∧ ih.length ≤ ih'.length) [some (.int h), some (.ref q), some (.int l'), some .non, some (.int (i : Int)), some (.ref u), c6] ih3 := Inv.mk ⟨⟨l', none, _, _, _, rfl, st4⟩, nx, F3, L3'⟩
      clear nx next st4 so kn kr
      walk_at "run"
      all_goals exact iv
    | some G =>
      by_cases hG : G < l'
      · have d1 := decide_eq_true hG
        have kz := fun t ih' => kn (i + 1) ((i : Int) + 1) t ih' (by omega) (by omega) (by omega) (fun m hm hf => by
          have := (st4.inn m hm).mpr hf
          have h2 := this.2 G rfl
          have h3 := this.1
          omega) (fun k k1 k2 => so k k1 (by omega))
        clear next st4 so kn kr hG
        walk_at "run"
        refine wp_tup (by simp) (newN fun t ih4 t1 t2 l4 f4 n4 => ?_)
        have ky := kz t ih4 n4 (F3.trans f4 (by omega)) (by omega)
        clear kz
        walk_at "run"
        all_goals exact ky
      · have d1 := decide_eq_false hG
        have nx := next ⟨l', st4.one, Int.le_refl _, fun G' hG' => by cases hG'; omega⟩
        have iv : Inv (fun (env : Env) (ih' : IH) => (∃ l g a4 a5 a6, env = [some (.int h), some (.ref q), some (.int l), some (ofO g), a4, a5, a6] ∧ St (Fit (2 ^ h.toNat) (rs.take (i + 1))) (AllEq (rs.take (i + 1))) l g) ∧ (∀ k, 1 ≤ k → k ≤ i + 1 → Some1 (2 ^ h.toNat) rs k) ∧ Fx ih ih' ∧ ih.length ≤ ih'.length) [some (.int h), some (.ref q), some (.int l'), some (.int G), some (.int (i : Int)), some (.ref u), c6] ih3 := Inv.mk ⟨⟨l', some G, _, _, _, rfl, st4⟩, nx, F3, L3'⟩
        clear nx next st4 so kn kr hG
        walk_at "run"
        all_goals exact iv
  · obtain ⟨⟨l, g, b4, b5, b6, ee, st⟩, so, fx, lx⟩ := hP
    subst ee
    have e1 : rs.take (MO.lst xs).xs.length = rs := by rw [xs_lst, pr.len, List.take_length]
    have e2 : (MO.lst xs).xs.length = rs.length := pr.len
    rw [e1] at st
    rw [e2] at so
    exact kr l g b4 b5 b6 ih' st so fx lx
theorem w_rates (c : Cs) {h : Int} {q : Nat} {xs : List IV} {rs : List (Int × Int)} {ih : IH} {Q : PQ IV} {E : EQ} (h0 : 0 ≤ h) (h1 : h ≤ 64) (gq : ih[q]? = some (.lst xs)) (pr : PR ih xs rs) (hb : RB rs) (hl : rs.length ≤ 1000) (hn : 0 < rs.length)
    (kn : ∀ (n : Nat) (z : Int) (t : Nat) ih', z = n → 1 ≤ n → n ≤ rs.length → (∀ m, 1 ≤ m → ¬ Fit (2 ^ h.toNat) (rs.take n) m) → (∀ i, 1 ≤ i → i < n → Some1 (2 ^ h.toNat) rs i) → ih'[t]? = some (.tup [.str "none", .int z]) → Fx ih ih' → ih.length ≤ ih'.length → Q (.ref t) ih')
    (kr : ∀ l g t ih', St (Fit (2 ^ h.toNat) rs) (AllEq rs) l g → (∀ i, 1 ≤ i → i ≤ rs.length → Some1 (2 ^ h.toNat) rs i) → ih'[t]? = some (.tup [.str "rates", .int l, ofO g]) → Fx ih ih' → ih.length ≤ ih'.length → Q (.ref t) ih') : wp (m_rates_seen c [.int h, .ref q] ih) Q E := by
  have a1 := q_shift c h0 h1
  have ql := lt_of_get gq
  unfold m_rates_seen b_rates_seen
  walk_at "run"
  refine wp_lst (by simp) (newN fun u ih1 u1 u2 l1 f1 n1 => ?_)
  have gq1 : ih1[q]? = some (.lst xs) := by rw [f1 q ql]; exact gq
  have pr1 := pr.fx f1
  have sh : SeqAt.shaped (.list (rs.map prD)) = true := by
    have := depth_prs rs
    unfold SeqAt.shaped
    rw [Bool.and_eq_true]
    exact ⟨by simp [PyData.canLay0, canLay_prs], decide_eq_true (by simp only [PyData.depth]; omega)⟩
  walk_at "run"
  refine wp_eq (.lst gq1 rfl pr1.is) (.lst n1 rfl .nil) sh (shaped_ints []) ?_
  have ne : PyData.eqv (.list (rs.map prD)) (.list []) = false := by
    cases rs with
    | nil => exact absurd hn (by simp)
    | cons r rs => simp [PyData.eqv, PyData.eqvAll]
  rw [ne]
  walk_at "run"
  unfold lc_rates_seen_1
  walk_at "run"
  refine lc_all (fun _ => .bl true) gq1 rfl (by rw [xs_lst, pr.len]; omega) (fun x hx ih2 f2 => ?_) (newN fun w ih2 w1 w2 l2 f2 n2 => ?_)
  · obtain ⟨j, hj⟩ := List.mem_iff_getElem?.mp hx
    obtain ⟨t, r, rfl, hr, gt⟩ := pr1.get (show xs[j]? = some x from hj)
    have q := fun Q E => q_seen c (ih := ih2) (by rw [f2 t (lt_of_get gt)]; exact gt) (hb r (List.mem_of_getElem? hr)).1 Q E
    unfold le_rates_seen_1
    walk_at "run"
  have n2' : ih2[w]? = some (.lst ((xs.map fun _ => true).map IV.bl)) := by rw [n2, List.map_map]; rfl
  walk_at "run"
  refine wp_allL (xs.map fun _ => true) n2' ?_
  have al : (xs.map fun _ => true).all id = true := by simp
  rw [al]
  have F2 := f1.trans f2 (by omega)
  have gq2 : ih2[q]? = some (.lst xs) := by rw [F2 q ql]; exact gq
  clear f1 f2 n1 n2 n2' gq1
  walk_at "run"
  refine wp_tup (by simp) (newN fun v ih3 v1 v2 l3 f3 n3 => ?_)
  have F3 := F2.trans f3 (by omega)
  have gq3 : ih3[q]? = some (.lst xs) := by rw [f3 q (by omega)]; exact gq2
  clear gq2 F2 f3
  walk_at "run"
  refine w_outer c h0 h1 gq3 (pr.fx F3) hb hl (fun n z t ih' e1 e2 e3 e4 e5 e6 e7 e8 => ?_) fun l g a4 a5 a6 ih' st so f4 l4 => ?_
  · have kz := kn n z t ih' e1 e2 e3 e4 e5 e6 (F3.trans e7 (by omega)) (by omega)
    clear kn kr
    walk_at "run"
    all_goals exact kz
  · clear gq3 n3
    walk_at "run"
    refine wp_tup (by simp) (newN fun y ih5 y1 y2 l5 f5 n5 => ?_)
    have kz := kr l g y ih5 st so n5 ((F3.trans f4 (by omega)).trans f5 (by omega)) (by omega)
    exact kz
end L3
/-! P08b: what rates_seen refuses. (L15) -/
namespace L3
open PySem PySem.Spec PyProof.Rows L2
local macro_rules | `(tactic| walk_at "get") => `(tactic| simp (disch := first | assumption | omega | (simp only [List.length_append, List.length_set, List.length_cons, List.length_nil, List.length_map] <;> omega) | fail) only [g_new, g_nw, g_old, g_set, g_sne, List.length_append, List.length_set, List.length_cons, List.length_nil, List.length_map, List.map_map, Function.comp_def, xs_lst, xs_tup, isL_lst, isL_tup, ↓reduceIte, *])
local macro_rules | `(tactic| walk_at "fr") => `(tactic| first | (intro _ _ _; simp (disch := first | assumption | omega | (simp only [List.length_append, List.length_set, List.length_cons, List.length_nil, List.length_map] <;> omega) | fail) only [g_new, g_nw, g_old, g_set, g_sne, List.length_append, List.length_set, List.length_cons, List.length_nil, List.length_map, List.map_map, Function.comp_def, xs_lst, xs_tup, isL_lst, isL_tup, ↓reduceIte, *]) | (intro _ _; simp (disch := first | assumption | omega | (simp only [List.length_append, List.length_set, List.length_cons, List.length_nil, List.length_map] <;> omega) | fail) only [g_new, g_nw, g_old, g_set, g_sne, List.length_append, List.length_set, List.length_cons, List.length_nil, List.length_map, List.map_map, Function.comp_def, xs_lst, xs_tup, isL_lst, isL_tup, ↓reduceIte, *]))
local macro_rules | `(tactic| walk_at "run") => `(tactic| simp -implicitDefEqProofs (disch := first | assumption | omega | (simp only [List.length_append, List.length_set, List.length_cons, List.length_nil, List.length_map] <;> omega) | fail) only [wp_ok, wp_exc, wp_stuck, ws_ok, ws_exc, ws_stuck, wp_op, kk_op, kk_un, wp_un, wp_cons, kk_cons, kk_cons2, wp_nil, wp_c, wp_app, wp_if, kk_if1, kk_if0, wp_and, kk_and1, kk_and0, wp_or, kk_or1, kk_or0, wp_not, kk_not, wp_tb, kk_tb, wp_andV, kk_andV1, kk_andV0, wp_orV, kk_orV1, kk_orV0, wp_notV, kk_notV, wp_noneS, wp_some, kk_some, wp_sl, kk_sl, kk_sl2, kk_sl3, wp_mL, kk_mL, kk_mL2, wp_mL0, kk_mL0, wp_chain, kk_ch, kk_ch2, kk_ch31, kk_ch30, ws_set, kks_nm, kks_g, kks_tup, kks_lst, ws_expr, kks_expr, ws_ret, kks_ret, ws_retN, ws_pass, ws_brk, ws_cont, ws_raise, ws_if, kks_if1, kks_if0, ws_seq, kks_next, kks_retS, kks_brk, kks_cont, kk_augE, ws_aug, kks_aug, kks_aug2, ws_par, kks_par, ws_setL, kks_sl, kks_sl2, kks_sl3, wp_def, kkd_ret, kkd_next, kkdE, kkE, ws_for, wp_lc, wp_r1, kk_r1, wp_r2, kk_r2, wp_il, wp_it, wp_ie, wp_iz, kk_il, kk_il2, kk_it, kk_it2, kk_ie, kk_ie2, kk_iz, kk_iz2, lAt_k, k_lAtL, k_lAtO, k_lAtT, wp_int, wp_add, wp_addI, wp_sub, wp_neg, wp_lt, wp_le, wp_gt, wp_ge, wp_max2, wp_min2, wp_abs, wp_mulI, wp_mul, wp_fdiv, wp_mod, wp_shl, wp_shr, wp_pow, wp_isN, wp_notN, wp_eqI, wp_neI, wp_ix, kk_ix, kk_ix2, wp_len, kk_lenL, kk_lenT, kk_lenO, kk_lenP, wp_appd, kk_app1, isL_k, kk_isL, startI_cons, startI_nil, rep_succ, rep_zero, List.getElem?_cons_zero, List.getElem?_cons_succ, List.set_cons_zero, List.set_cons_succ, f_call, m_var, List.append_nil, List.nil_append, List.cons_append, List.length_cons, List.length_nil, if_true, if_false, g_tup, g_lst, g_cons, g_nil, g_nm, Option.bind_some, kks_g, atI_0, atI_1, atI_2, atI_3, atI_4, atI_5, atI_6, atI_7, atI_8, atI_9, atI_10, atI_11, atI_12, atI_last, cutI_1, ixN_30, ixN_31, ixN_32, Int.toNat_zero, Int.reduceToNat, Int.reduceNeg, xs_lst, xs_tup, xs_ro, xs_rot, isL_lst, isL_tup, isL_ro, isL_rot, isT_tup, isT_rot, Bool.false_eq_true, Bool.true_eq_false, Bool.not_true, Bool.not_false, decide_true, decide_false, Int.reduceLT, Int.reduceLE, Nat.reduceLT, Nat.reduceLeDiff, Nat.reduceAdd, Nat.reduceEqDiff, Bool.not_eq_true, true_and, and_true, and_self, eq_self, g_new, g_nw, g_old, g_set, g_sne, List.length_set, List.length_append, wp_r3, kk_r3, Int.cast_ofNat_Int, Int.reduceEq, Int.natCast_zero, Int.natCast_one, ws_whileA, wp_isiII, wp_isiIB, wp_isiI_list, wp_isiI_tuple, wp_isiI_str, wp_isiR, tyO_l, tyO_t, kk_isi, kk_isi2, kit_ll, kit_tt, kit_lt, kit_tl, wp_isiN, wp_isiBl, wp_isiS, tyO_d, kit2_NoneType_int, kit2_NoneType_bool, kit2_NoneType_list, kit2_NoneType_tuple, kit2_NoneType_str, kit2_bool_int, kit2_bool_bool, kit2_bool_list, kit2_bool_tuple, kit2_bool_str, kit2_str_int, kit2_str_bool, kit2_str_list, kit2_str_tuple, kit2_str_str, kit2_dict_int, kit2_dict_bool, kit2_dict_list, kit2_dict_tuple, kit2_dict_str, kit2_list_int, kit2_list_bool, kit2_list_str, kit2_tuple_int, kit2_tuple_bool, kit2_tuple_str, kit2_int_list, kit2_int_tuple, kit2_int_str, kf_next, kf_cont, kf_brk, kf_ret, wipeI, ws_try, wp_isEg, wp_isEt, kk_isE, wp_neS, wp_int2, ↓reduceIte, *])
section
variable {p : Nat} {ih ih' : IH} {v : IV} {Q : PQ IV} {E : EQ}
theorem Elm.fr (h : Elm p ih v) (f : Fr p ih ih') : Elm p ih' v := by
  obtain ⟨hk, ht⟩ := h
  refine ⟨hk.fr f, fun k xs e g => ?_⟩
  subst e
  obtain ⟨hp, t, hty⟩ := hk
  have e := f k (tyO_lt hty) hp
  obtain ⟨h1, h2⟩ := ht k xs rfl (by rw [← e]; exact g)
  exact ⟨h1, fun x hx => (h2 x hx).fr f⟩
theorem Elm.seen (h : Elm p ih v) (f : Fr p ih ih') : seenV ih' v = seenV ih v := by
  obtain ⟨hk, ht⟩ := h
  cases v with
  | ref k =>
    obtain ⟨hp, t, hty⟩ := hk
    unfold seenV
    dsimp only
    rw [f k (tyO_lt hty) hp]
  | _ => rfl
def BadRows (p : Nat) (ih : IH) : IV → Prop
  | .ref k => k ≠ p ∧ ((∃ xs, ih[k]? = some (.lst xs) ∧ xs.length < 1000 ∧ (∀ x ∈ xs, Elm p ih x) ∧ (xs ≠ [] → xs.all (seenV ih) = false)) ∨ ∃ t, tyO ih[k]? = some t ∧ t ≠ "list")
  | .gl _ => False
  | .ty _ => False
  | _ => True
theorem all_seen {xs : List IV} (h : ∀ x ∈ xs, Elm p ih x) (f : Fr p ih ih') : xs.all (seenV ih') = xs.all (seenV ih) := by
  induction xs with
  | nil => rfl
  | cons x r ihr =>
    rw [List.all_cons, List.all_cons, (h x (by simp)).seen f, ihr fun y hy => h y (by simp [hy])]
theorem BadRows.fr (h : BadRows p ih v) (f : Fr p ih ih') : BadRows p ih' v := by
  cases v with
  | ref k =>
    obtain ⟨h1, h2⟩ := h
    refine ⟨h1, ?_⟩
    rcases h2 with ⟨xs, g, a, b, d⟩ | ⟨t, g, b⟩
    · exact .inl ⟨xs, by rw [f k (lt_of_get g) h1]; exact g, a, fun x hx => (b x hx).fr f, fun n => by rw [all_seen b f]; exact d n⟩
    · exact .inr ⟨t, by rw [f k (tyO_lt g) h1]; exact g, b⟩
  | _ => exact h
theorem w_ratesS (c : Cs) {s : IV} (hs : KV p ih s) (hg : goodS s = false) (q : E c.NoRate ih) : wp (m_rates_seen c [s, v] ih) Q E := by
  unfold m_rates_seen b_rates_seen
  walk_at "run"
  refine w_shiftV c hs ?_
  walk_at "run"
  all_goals exact q
theorem w_ratesR (c : Cs) {s : Int} (s0 : 0 ≤ s) (s1 : s ≤ 64) (hb : BadRows p ih v) (q : ∀ ih', ih.length ≤ ih'.length → Fx ih ih' → E c.NoReading ih') : wp (m_rates_seen c [.int s, v] ih) Q E := by
  have a1 := q_shift c s0 s1
  have q0 := q ih (Nat.le_refl _) Fx.refl
  unfold m_rates_seen b_rates_seen
  cases v with
  | gl a => exact hb.elim
  | ty a => exact hb.elim
  | non => clear q; walk_at "run"; all_goals exact q0
  | bl b => clear q; walk_at "run"; all_goals exact q0
  | int b => clear q; walk_at "run"; all_goals exact q0
  | str b => clear q; walk_at "run"; all_goals exact q0
  | ref k =>
    obtain ⟨hp, hb⟩ := hb
    rcases hb with ⟨xs, g, hl, hx, ht⟩ | ⟨t, ht, hn⟩
    · have lk := lt_of_get g
      walk_at "run"
      refine wp_lst (by simp) (newN fun d ih1 d1 d2 l1 f1 g1 => ?_)
      have h1 := (f1 k lk).trans g
      cases xs with
      | nil =>
        have q1 := q ih1 (by omega) f1
        clear q f1 g
        walk_at "run"
        refine wp_eq (Is.ints (ns := []) h1 rfl rfl) (Is.ints (ns := []) g1 rfl rfl) (shaped_ints _) (shaped_ints _) ?_
        rw [eqv_list, decide_eq_true rfl]
        walk_at "run"
        all_goals exact q1
      | cons x0 r =>
        generalize hxs : x0 :: r = xs at g hl hx ht h1
        have ha := ht (by rw [← hxs]; simp)
        have hxn : xs.length ≠ ([] : List IV).length := by rw [← hxs]; simp
        clear ht hxs
        have hx1 := fun x hm => (hx x hm).fr (f1.fr (p := p))
        have ha1 : xs.all (seenV ih1) = false := by rw [all_seen hx f1.fr]; exact ha
        have F1 := Hide.mk f1
        clear f1 g hx
        walk_at "run"
        refine wp_eqLen h1 g1 hxn ?_
        clear hxn
        walk_at "run"
        unfold lc_rates_seen_1
        walk_at "run"
        refine lc_all (o := .lst xs) (fun x => .bl (seenV ih1 x)) h1 rfl (by show xs.length < _; omega) (fun x hm ih2 f2 => ?_) ?_
        · have e := (hx1 x hm).seen (f2.fr (p := p))
          have hx' := (hx1 x hm).fr (f2.fr (p := p))
          unfold le_rates_seen_1
          walk_at "run"
          refine w_seenV c hx' ?_
          exact ⟨by rw [e], rfl⟩
        rw [show (MO.lst xs).xs.map (fun x => IV.bl (seenV ih1 x)) = (xs.map (seenV ih1)).map IV.bl by rw [List.map_map]; rfl]
        refine newN fun e ih2 e1 e2 l2 f2 g2 => ?_
        walk_at "run"
        refine wp_allL (xs.map (seenV ih1)) g2 ?_
        rw [all_id, ha1]
        have q1 := q ih2 (by omega) (F1.get.trans f2 (by omega))
        clear q f2 g2 h1
        walk_at "run"
        all_goals exact q1
    · clear q
      rcases tyO_cases ht with ⟨e, _⟩ | e | e
      · exact absurd e hn
      · subst e
        walk_at "run"
        all_goals exact q0
      · subst e
        walk_at "run"
        all_goals exact q0
end
end L3
/-! R08: what valid rates tell (out of K06, K07). -/
namespace L3
open PySem PySem.Spec PyProof.Rows L2
local macro_rules | `(tactic| walk_at "get") => `(tactic| simp (disch := first | assumption | omega | (simp only [List.length_append, List.length_set, List.length_cons, List.length_nil, List.length_map] <;> omega) | fail) only [g_new, g_nw, g_old, g_set, g_sne, List.length_append, List.length_set, List.length_cons, List.length_nil, List.length_map, List.map_map, Function.comp_def, xs_lst, xs_tup, isL_lst, isL_tup, ↓reduceIte, *])
local macro_rules | `(tactic| walk_at "fr") => `(tactic| first | (intro _ _ _; simp (disch := first | assumption | omega | (simp only [List.length_append, List.length_set, List.length_cons, List.length_nil, List.length_map] <;> omega) | fail) only [g_new, g_nw, g_old, g_set, g_sne, List.length_append, List.length_set, List.length_cons, List.length_nil, List.length_map, List.map_map, Function.comp_def, xs_lst, xs_tup, isL_lst, isL_tup, ↓reduceIte, *]) | (intro _ _; simp (disch := first | assumption | omega | (simp only [List.length_append, List.length_set, List.length_cons, List.length_nil, List.length_map] <;> omega) | fail) only [g_new, g_nw, g_old, g_set, g_sne, List.length_append, List.length_set, List.length_cons, List.length_nil, List.length_map, List.map_map, Function.comp_def, xs_lst, xs_tup, isL_lst, isL_tup, ↓reduceIte, *]))
local macro_rules | `(tactic| walk_at "run") => `(tactic| simp -implicitDefEqProofs (disch := first | assumption | omega | (simp only [List.length_append, List.length_set, List.length_cons, List.length_nil, List.length_map] <;> omega) | fail) only [wp_ok, wp_exc, wp_stuck, ws_ok, ws_exc, ws_stuck, wp_op, kk_op, kk_un, wp_un, wp_cons, kk_cons, kk_cons2, wp_nil, wp_c, wp_app, wp_if, kk_if1, kk_if0, wp_and, kk_and1, kk_and0, wp_or, kk_or1, kk_or0, wp_not, kk_not, wp_tb, kk_tb, wp_andV, kk_andV1, kk_andV0, wp_orV, kk_orV1, kk_orV0, wp_notV, kk_notV, wp_noneS, wp_some, kk_some, wp_sl, kk_sl, kk_sl2, kk_sl3, wp_mL, kk_mL, kk_mL2, wp_mL0, kk_mL0, wp_chain, kk_ch, kk_ch2, kk_ch31, kk_ch30, ws_set, kks_nm, kks_g, kks_tup, kks_lst, ws_expr, kks_expr, ws_ret, kks_ret, ws_retN, ws_pass, ws_brk, ws_cont, ws_raise, ws_if, kks_if1, kks_if0, ws_seq, kks_next, kks_retS, kks_brk, kks_cont, kk_augE, ws_aug, kks_aug, kks_aug2, ws_par, kks_par, ws_setL, kks_sl, kks_sl2, kks_sl3, wp_def, kkd_ret, kkd_next, kkdE, kkE, ws_for, wp_lc, wp_r1, kk_r1, wp_r2, kk_r2, wp_il, wp_it, wp_ie, wp_iz, kk_il, kk_il2, kk_it, kk_it2, kk_ie, kk_ie2, kk_iz, kk_iz2, lAt_k, k_lAtL, k_lAtO, k_lAtT, wp_int, wp_add, wp_addI, wp_sub, wp_neg, wp_lt, wp_le, wp_gt, wp_ge, wp_max2, wp_min2, wp_abs, wp_mulI, wp_mul, wp_fdiv, wp_mod, wp_shl, wp_shr, wp_pow, wp_isN, wp_notN, wp_eqI, wp_neI, wp_ix, kk_ix, kk_ix2, wp_len, kk_lenL, kk_lenT, kk_lenO, kk_lenP, wp_appd, kk_app1, isL_k, kk_isL, startI_cons, startI_nil, rep_succ, rep_zero, List.getElem?_cons_zero, List.getElem?_cons_succ, List.set_cons_zero, List.set_cons_succ, f_call, m_var, List.append_nil, List.nil_append, List.cons_append, List.length_cons, List.length_nil, if_true, if_false, g_tup, g_lst, g_cons, g_nil, g_nm, Option.bind_some, kks_g, atI_0, atI_1, atI_2, atI_3, atI_4, atI_5, atI_6, atI_7, atI_8, atI_9, atI_10, atI_11, atI_12, atI_last, cutI_1, ixN_30, ixN_31, ixN_32, Int.toNat_zero, Int.reduceToNat, Int.reduceNeg, xs_lst, xs_tup, xs_ro, xs_rot, isL_lst, isL_tup, isL_ro, isL_rot, isT_tup, isT_rot, Bool.false_eq_true, Bool.true_eq_false, Bool.not_true, Bool.not_false, decide_true, decide_false, Int.reduceLT, Int.reduceLE, Nat.reduceLT, Nat.reduceLeDiff, Nat.reduceAdd, Nat.reduceEqDiff, Bool.not_eq_true, true_and, and_true, and_self, eq_self, g_new, g_nw, g_old, g_set, g_sne, List.length_set, List.length_append, wp_r3, kk_r3, Int.cast_ofNat_Int, Int.reduceEq, Int.natCast_zero, Int.natCast_one, ws_whileA, wp_isiII, wp_isiIB, wp_isiI_list, wp_isiI_tuple, wp_isiI_str, wp_isiR, tyO_l, tyO_t, kk_isi, kk_isi2, kit_ll, kit_tt, kit_lt, kit_tl, wp_isiN, wp_isiBl, wp_isiS, tyO_d, kit2_NoneType_int, kit2_NoneType_bool, kit2_NoneType_list, kit2_NoneType_tuple, kit2_NoneType_str, kit2_bool_int, kit2_bool_bool, kit2_bool_list, kit2_bool_tuple, kit2_bool_str, kit2_str_int, kit2_str_bool, kit2_str_list, kit2_str_tuple, kit2_str_str, kit2_dict_int, kit2_dict_bool, kit2_dict_list, kit2_dict_tuple, kit2_dict_str, kit2_list_int, kit2_list_bool, kit2_list_str, kit2_tuple_int, kit2_tuple_bool, kit2_tuple_str, kit2_int_list, kit2_int_tuple, kit2_int_str, kf_next, kf_cont, kf_brk, kf_ret, wipeI, ↓reduceIte, *])
theorem q_cycle (c : Cs) {v : Int} (h : 0 ≤ v) (ih : IH) (Q : PQ IV) (E : EQ) : wp (m_check_cycle c [.int v, .int 0] ih) Q E = Q .non ih := by
  have a := q_whole c v 0
  unfold m_check_cycle b_check_cycle
  walk_at "run"
structure Pair (t : Nat) (m h : Int) (ih : IH) : Prop where
  g : ih[t]? = some (.tup [.int m, .int h])
  m0 : 1 ≤ m
  m1 : m < 2 ^ 64
  h0 : 0 ≤ h
  h1 : h ≤ 64
theorem Pair.mB {t : Nat} {m h : Int} {ih : IH} (p : Pair t m h ih) : B 65 m := by
  obtain ⟨_, a, b, _, _⟩ := p
  exact B.lt (by omega) (by omega)
theorem Pair.sB {t : Nat} {m h : Int} {ih : IH} (p : Pair t m h ih) : B 65 ((2 : Int) ^ h.toNat) := pow_B p.h0 p.h1
theorem q_rr (c : Cs) {t : Nat} {m h g : Int} {ih : IH} (p : Pair t m h ih) (g0 : 0 ≤ g) (gb : B 8000 g) (Q : PQ IV) (E : EQ) : wp (m_rate_reading c [.ref t, .int g] ih) Q E = Q (.int (g * m / 2 ^ h.toNat)) ih := by
  obtain ⟨pg, m0, m1, h0, h1⟩ := p
  have a := q_rate c pg m0 m1 h0 h1
  have b := q_cycle c g0
  have d : cMul g m = true := B.cmul gb (B.lt (n := 65) (by omega) (by omega)) (by decide)
  unfold m_rate_reading b_rate_reading
  walk_at "run"
theorem q_fc (c : Cs) {t : Nat} {m h g : Int} {ih : IH} (p : Pair t m h ih) (g0 : 0 ≤ g) (gb : B 8000 g) (Q : PQ IV) (E : EQ) : wp (m_first_cycle c [.ref t, .int g] ih) Q E = Q (.int (ce (g * 2 ^ h.toNat) m)) ih := by
  obtain ⟨pg, m0, m1, h0, h1⟩ := p
  have a := q_rate c pg m0 m1 h0 h1
  have b := q_whole c g 0
  have d : cShl g h = true := by
    obtain ⟨k, rfl⟩ := Int.eq_ofNat_of_zero_le h0
    exact cShl_of gb (by omega)
  have e := fun n => q_up c (n := n) (show 0 < m by omega) ((B.lt (n := 65) (by omega) (by omega)).mono (by decide))
  unfold m_first_cycle b_first_cycle
  walk_at "run"
theorem q_width (c : Cs) {w : Int} (h0 : 1 ≤ w) (h1 : w ≤ 64) (ih : IH) (Q : PQ IV) (E : EQ) : wp (m_check_width c [.int w] ih) Q E = Q .non ih := by
  have a := q_whole c w 1
  have d : decide ((64 : Int) < w) = false := decide_eq_false (by omega)
  unfold m_check_width b_check_width
  walk_at "run"
/-- may shift s be told -/
def Tt (f u most : Int) (s : Nat) : Prop := 1 ≤ u * 2 ^ s / f ∧ u * 2 ^ s / f * most < 2 ^ 64
instance (f u most : Int) (s : Nat) : Decidable (Tt f u most s) := by
  unfold Tt
  infer_instance
theorem pow_nat (i : Nat) : (2 : Int) ^ ((i : Int)).toNat = 2 ^ i := by rw [Int.toNat_natCast]
theorem shl_n {u : Int} (uB : B 200 u) {s : Nat} (hs : s < 33) : cShl u (s : Int) = true := cShl_of uB (by omega)
theorem w_best_loop (c : Cs) {kk : Nat} (hk : kk = 33) {f u most : Int} {ih : IH} {Q : PQ IV} {E : EQ} (f0 : 1 ≤ f) (u0 : 1 ≤ u) (m0 : 1 ≤ most) (fB : B 200 f) (uB : B 200 u) (mB : B 200 most)
    (b : ∀ (ih : IH) (Q : PQ IV) (E : EQ), wp (m_power c [.int 64] ih) Q E = Q (.int (2 ^ 64)) ih)
    (kn : (∀ s, s < 33 → ¬ Tt f u most s) → Q .non ih) (ks : ∀ (s t : Nat) ih', s < 33 → Tt f u most s → (∀ r, s < r → r < 33 → ¬ Tt f u most r) → ih'[t]? = some (.tup [.int (u * 2 ^ s / f), .int (s : Int)]) → ih.length ≤ t → t < ih'.length → Fx ih ih' → Q (.ref t) ih') :
    ks_for (g_nm 3) (lb_best_rate_1 c) [some (.int f), some (.int u), some (.int most), none, none] (ks_seq (ms_ret (m_c .non)) (kd Q) (kdE E)) (kdE E) (.rng 32 (-1) kk) ih := by
  refine for_rng (fun (i : Nat) (env : Env) (ih' : IH) => (∃ a b, env = [some (.int f), some (.int u), some (.int most), a, b]) ∧ ih' = ih ∧ ∀ r : Nat, 33 - i ≤ r → r < 33 → ¬ Tt f u most r) ?_ (fun i env ih' hi hP => ?_) fun env ih' hP => ?_
  · exact ⟨⟨_, _, rfl⟩, rfl, fun r h1 h2 => by omega⟩
  · obtain ⟨⟨x, y, ee⟩, eh, ht⟩ := hP
    subst ee eh
    obtain ⟨s, es⟩ : ∃ s : Nat, s + i = 32 := ⟨32 - i, by omega⟩
    have e1 : (32 : Int) + (i : Int) * -1 = (s : Int) := by omega
    rw [e1]
    have c1 := shl_n uB (s := s) (by omega)
    have p0 : (0 : Int) < 2 ^ s := Int.pow_pos (by decide)
    have c2 : cDiv (u * 2 ^ s) f = true := cDiv_of (by omega) fB (by decide) (by decide)
    have pB : B 40 ((2 : Int) ^ s) := by
      refine B.lt (Int.le_of_lt p0) ?_
      exact_mod_cast Nat.pow_lt_pow_right (by decide) (show s < 40 by omega)
    have dB : B 240 (u * 2 ^ s / f) := B.div (B.mul uB pB) (by omega)
    have c3 : cMul (u * 2 ^ s / f) most = true := B.cmul dB mB (by decide)
    have pn := pow_nat s
    have hT : Tt f u most s ↔ (1 ≤ u * 2 ^ s / f ∧ u * 2 ^ s / f * most < 2 ^ 64) := Iff.rfl
    obtain ⟨M, eM⟩ : ∃ M : Int, u * 2 ^ s / f = M := ⟨_, rfl⟩
    have ks' := ks s
    rw [eM] at c3 hT ks'
    clear ks kn
    have next : ¬ Tt f u most s → ∀ r, 33 - (i + 1) ≤ r → r < 33 → ¬ Tt f u most r := fun hn r h1 h2 => by
      by_cases hr : r = s
      · rw [hr]; exact hn
      · exact ht r (by omega) h2
    by_cases t1 : 1 ≤ M
    · have d1 := decide_eq_true t1
      by_cases t2 : M * most < 2 ^ 64
      · have d2 := decide_eq_true t2
        have kq := fun t ih' => ks' t ih' (by omega) (hT.mpr ⟨t1, t2⟩) (fun r h1 h2 => ht r (by omega) h2)
        clear next ht hT ks' t1 t2
        unfold lb_best_rate_1
        walk_at "run"
        refine wp_tup (by simp) (newN fun t ih2 q1 q2 l2 f2 g2 => ?_)
        have kz := kq t ih2 g2 q1 q2 f2
        clear kq
        walk_at "run"
        all_goals exact kz
      · have d2 := decide_eq_false t2
        have nx := next fun h => t2 (hT.mp h).2
        clear next ht hT ks' t1 t2
        unfold lb_best_rate_1
        walk_at "run"
        exact Inv.mk ⟨⟨_, _, rfl⟩, rfl, nx⟩
    · have d1 := decide_eq_false t1
      have nx := next fun h => t1 (hT.mp h).1
      clear next ht hT ks' t1
      unfold lb_best_rate_1
      walk_at "run"
      exact Inv.mk ⟨⟨_, _, rfl⟩, rfl, nx⟩
  · obtain ⟨⟨x, y, ee⟩, eh, ht⟩ := hP
    subst ee eh
    have kn' := kn fun s hs => ht s (by omega) hs
    clear kn ks
    walk_at "run"
    all_goals exact kn'
theorem w_best (c : Cs) {f u most : Int} {ih : IH} {Q : PQ IV} {E : EQ} (f0 : 1 ≤ f) (u0 : 1 ≤ u) (m0 : 1 ≤ most) (fB : B 200 f) (uB : B 200 u) (mB : B 200 most)
    (kn : (∀ s, s < 33 → ¬ Tt f u most s) → Q .non ih) (ks : ∀ (s t : Nat) ih', s < 33 → Tt f u most s → (∀ r, s < r → r < 33 → ¬ Tt f u most r) → ih'[t]? = some (.tup [.int (u * 2 ^ s / f), .int (s : Int)]) → ih.length ≤ t → t < ih'.length → Fx ih ih' → Q (.ref t) ih') :
    wp (m_best_rate c [.int f, .int u, .int most] ih) Q E := by
  have a1 := q_whole c f 1
  have a2 := q_whole c u 1
  have a3 := q_whole c most 1
  have b := q_power c (w := 64) (by decide) (by decide)
  have e64 : ((2 : Int) ^ (64 : Int).toNat) = 2 ^ 64 := rfl
  rw [e64] at b
  unfold m_best_rate b_best_rate
  walk_at "run"
  refine ⟨⟨smallI_mk (by omega) (by omega), smallI_mk (by omega) (by omega)⟩, fun kk hk => ?_⟩
  exact w_best_loop c (hk.trans (by decide)) f0 u0 m0 fB uB mB b kn ks

theorem w_span (c : Cs) {t : Nat} {w m h : Int} {ih : IH} {Q : PQ IV} {E : EQ} (g : ih[t]? = some (.tup [.int m, .int h])) (w0 : 1 ≤ w) (w1 : w ≤ 64) (m0 : 1 ≤ m) (m1 : m < 2 ^ 64) (h0 : 0 ≤ h) (h1 : h ≤ 64)
    (k : ∀ v, v = (if (2 ^ 64 - 1) / m < 2 ^ w.toNat - 1 then (2 ^ 64 - 1) / m else 2 ^ w.toNat - 1) → Q (.int v) ih) : wp (m_longest_span c [.int w, .ref t] ih) Q E := by
  have a1 := q_width c w0 w1
  have a2 := fun Q E => q_rate c g m0 m1 h0 h1 Q E
  have a3 := q_power c (w := w) (by omega) (by omega)
  have a4 := q_power c (w := 64) (by decide) (by decide)
  have e64 : ((2 : Int) ^ (64 : Int).toNat) = 2 ^ 64 := rfl
  rw [e64] at a4
  have c1 : cDiv (2 ^ 64 - 1) m = true := cDiv_of (by omega) (B.lt (n := 65) (by omega) (by omega)) (by decide) (by decide)
  have k' := k _ rfl
  clear k
  unfold m_longest_span b_longest_span
  walk_at "run"
  all_goals exact k'

theorem shaped_none : SeqAt.shaped .none = true := by simp [SeqAt.shaped, PyData.canLay0, PyData.depth]
theorem shaped_t2 (a b : Int) : SeqAt.shaped (.tuple [.int a, .int b]) = true := by simp [SeqAt.shaped, PyData.canLay0, PyData.canLayAll0, PyData.depth, PyData.depthAll]
theorem Is.t2 {ih : IH} {n : Nat} {a b : Int} (h : ih[n]? = some (.tup [.int a, .int b])) : Is ih (.ref n) (.tuple [.int a, .int b]) := .tup h rfl (.cons (.int a) (.cons (.int b) .nil))
end L3
/-! K08: odd things drawn. (L15) (L17) -/
namespace L3
open PySem PySem.Spec PyProof.Rows L2
local macro_rules | `(tactic| walk_at "get") => `(tactic| simp (disch := first | assumption | omega | (simp only [List.length_append, List.length_set, List.length_cons, List.length_nil, List.length_map] <;> omega) | fail) only [g_new, g_nw, g_old, g_set, g_sne, List.length_append, List.length_set, List.length_cons, List.length_nil, List.length_map, List.map_map, Function.comp_def, xs_lst, xs_tup, isL_lst, isL_tup, ↓reduceIte, *])
local macro_rules | `(tactic| walk_at "fr") => `(tactic| first | (intro _ _ _; simp (disch := first | assumption | omega | (simp only [List.length_append, List.length_set, List.length_cons, List.length_nil, List.length_map] <;> omega) | fail) only [g_new, g_nw, g_old, g_set, g_sne, List.length_append, List.length_set, List.length_cons, List.length_nil, List.length_map, List.map_map, Function.comp_def, xs_lst, xs_tup, isL_lst, isL_tup, ↓reduceIte, *]) | (intro _ _; simp (disch := first | assumption | omega | (simp only [List.length_append, List.length_set, List.length_cons, List.length_nil, List.length_map] <;> omega) | fail) only [g_new, g_nw, g_old, g_set, g_sne, List.length_append, List.length_set, List.length_cons, List.length_nil, List.length_map, List.map_map, Function.comp_def, xs_lst, xs_tup, isL_lst, isL_tup, ↓reduceIte, *]))
local macro_rules | `(tactic| walk_at "run") => `(tactic| simp -implicitDefEqProofs (disch := first | assumption | omega | (simp only [List.length_append, List.length_set, List.length_cons, List.length_nil, List.length_map] <;> omega) | fail) only [wp_ok, wp_exc, wp_stuck, ws_ok, ws_exc, ws_stuck, wp_op, kk_op, kk_un, wp_un, wp_cons, kk_cons, kk_cons2, wp_nil, wp_c, wp_app, wp_if, kk_if1, kk_if0, wp_and, kk_and1, kk_and0, wp_or, kk_or1, kk_or0, wp_not, kk_not, wp_tb, kk_tb, wp_andV, kk_andV1, kk_andV0, wp_orV, kk_orV1, kk_orV0, wp_notV, kk_notV, wp_noneS, wp_some, kk_some, wp_sl, kk_sl, kk_sl2, kk_sl3, wp_mL, kk_mL, kk_mL2, wp_mL0, kk_mL0, wp_chain, kk_ch, kk_ch2, kk_ch31, kk_ch30, ws_set, kks_nm, kks_g, kks_tup, kks_lst, ws_expr, kks_expr, ws_ret, kks_ret, ws_retN, ws_pass, ws_brk, ws_cont, ws_raise, ws_if, kks_if1, kks_if0, ws_seq, kks_next, kks_retS, kks_brk, kks_cont, kk_augE, ws_aug, kks_aug, kks_aug2, ws_par, kks_par, ws_setL, kks_sl, kks_sl2, kks_sl3, wp_def, kkd_ret, kkd_next, kkdE, kkE, ws_for, wp_lc, wp_r1, kk_r1, wp_r2, kk_r2, wp_il, wp_it, wp_ie, wp_iz, kk_il, kk_il2, kk_it, kk_it2, kk_ie, kk_ie2, kk_iz, kk_iz2, lAt_k, k_lAtL, k_lAtO, k_lAtT, wp_int, wp_add, wp_addI, wp_sub, wp_neg, wp_lt, wp_le, wp_gt, wp_ge, wp_max2, wp_min2, wp_abs, wp_mulI, wp_mul, wp_fdiv, wp_mod, wp_shl, wp_shr, wp_pow, wp_isN, wp_notN, wp_eqI, wp_neI, wp_ix, kk_ix, kk_ix2, wp_len, kk_lenL, kk_lenT, kk_lenO, kk_lenP, wp_appd, kk_app1, isL_k, kk_isL, startI_cons, startI_nil, rep_succ, rep_zero, List.getElem?_cons_zero, List.getElem?_cons_succ, List.set_cons_zero, List.set_cons_succ, f_call, m_var, List.append_nil, List.nil_append, List.cons_append, List.length_cons, List.length_nil, if_true, if_false, g_tup, g_lst, g_cons, g_nil, g_nm, Option.bind_some, kks_g, atI_0, atI_1, atI_2, atI_3, atI_4, atI_5, atI_6, atI_7, atI_8, atI_9, atI_10, atI_11, atI_12, atI_last, cutI_1, ixN_30, ixN_31, ixN_32, Int.toNat_zero, Int.reduceToNat, Int.reduceNeg, xs_lst, xs_tup, xs_ro, xs_rot, isL_lst, isL_tup, isL_ro, isL_rot, isT_tup, isT_rot, Bool.false_eq_true, Bool.true_eq_false, Bool.not_true, Bool.not_false, decide_true, decide_false, Int.reduceLT, Int.reduceLE, Nat.reduceLT, Nat.reduceLeDiff, Nat.reduceAdd, Nat.reduceEqDiff, Bool.not_eq_true, true_and, and_true, and_self, eq_self, g_new, g_nw, g_old, g_set, g_sne, List.length_set, List.length_append, wp_r3, kk_r3, Int.cast_ofNat_Int, Int.reduceEq, Int.natCast_zero, Int.natCast_one, ws_whileA, wp_isiII, wp_isiIB, wp_isiI_list, wp_isiI_tuple, wp_isiI_str, wp_isiR, tyO_l, tyO_t, kk_isi, kk_isi2, kit_ll, kit_tt, kit_lt, kit_tl, wp_isiN, wp_isiBl, wp_isiS, tyO_d, kit2_NoneType_int, kit2_NoneType_bool, kit2_NoneType_list, kit2_NoneType_tuple, kit2_NoneType_str, kit2_bool_int, kit2_bool_bool, kit2_bool_list, kit2_bool_tuple, kit2_bool_str, kit2_str_int, kit2_str_bool, kit2_str_list, kit2_str_tuple, kit2_str_str, kit2_dict_int, kit2_dict_bool, kit2_dict_list, kit2_dict_tuple, kit2_dict_str, kit2_list_int, kit2_list_bool, kit2_list_str, kit2_tuple_int, kit2_tuple_bool, kit2_tuple_str, kit2_int_list, kit2_int_tuple, kit2_int_str, kf_next, kf_cont, kf_brk, kf_ret, wipeI, wp_lstE, wp_tupE, wp_dctE, wp_lamE, wp_catE, kk_catL, g_appn, g_app0, g_appo, g_setn, g_set0, List.append_assoc, Nat.zero_add, ws_try, wp_isEg, wp_isEt, kk_isE, wp_neS, wp_int2, ↓reduceIte, *])
section
variable {p m : Nat} {ih : IH} {v : IV} {Q : PQ IV} {E : EQ}
theorem w_odd (c : Cs) {l : Int} (s : Src0 p m ih) (hm : m + 1 ≤ 1000000) (h0 : 0 ≤ l) (k : ∀ v ih', KV p ih' v → whl l v = false → Src0 p (m + 1) ih' → Fr p ih ih' → ih.length ≤ ih'.length → Q v ih') : wp (m_law_odd c [.ref p, .int l] ih) Q E := by
  have lp := s.lt
  have c30 : cPow 10 30 = true := by decide
  have k := Hide.mk k
  unfold m_law_odd b_law_odd
  walk_at "run"
  refine w_next c (s.fx Fx.apps) (by decide) ((lit 9 : B 9 9).mono (by decide)) (by omega) fun a ih1 a0 a1 s1 f1 l1 => ?_
  have l1' : ih.length + 3 ≤ ih1.length := by rw [l1]; simp
  have fr : Fr p ih ih1 := Fx.apps.fr.trans f1 (by simp)
  have G : ∀ j, j < 3 → ih1[ih.length + j]? = _ := fun j hj => (f1 (ih.length + j) (by simp; omega) (by omega)).trans g_appn
  walk_at "run"
  refine k_pick a0 (by simpa using a1) fun o ho => ?_
  simp only [List.mem_cons, List.not_mem_nil, or_false] at ho
  have fin := fun v h1 h2 => k.get v ih1 h1 h2 s1 fr (by omega)
  rcases ho with e | e | e | e | e | e | e | e | e <;> subst e
  · exact fin _ trivial (decide_eq_false (by omega))
  · exact fin _ trivial (decide_eq_false (by omega))
  · exact fin _ trivial rfl
  · exact fin _ trivial rfl
  · exact fin _ trivial rfl
  · exact fin _ trivial rfl
  · exact fin _ ⟨by omega, _, by rw [show ih1[ih.length]? = _ from G 0 (by decide)]; rfl⟩ rfl
  · exact fin _ ⟨by omega, _, by rw [show ih1[ih.length + 1]? = _ from G 1 (by decide)]; rfl⟩ rfl
  · exact fin _ ⟨by omega, _, by rw [show ih1[ih.length + 2]? = _ from G 2 (by decide)]; rfl⟩ rfl
theorem w_odd_pair (c : Cs) (s : Src0 p m ih) (hm : m + 1 ≤ 1000000) (k : ∀ v ih', OddR p ih' v → Src0 p (m + 1) ih' → Fr p ih ih' → ih.length ≤ ih'.length → Q v ih') : wp (m_law_odd_pair c [.ref p] ih) Q E := by
  have lp := s.lt
  have c1 : cShl 1 64 = true := (shl_w (w := 64) (by decide) (by decide)).1
  have k := Hide.mk k
  unfold m_law_odd_pair b_law_odd_pair
  walk_at "run"
  refine w_next c (s.fx Fx.apps) (by decide) ((lit 19 : B 19 19).mono (by decide)) (by omega) fun a ih1 a0 a1 s1 f1 l1 => ?_
  have l1' : ih.length + 19 ≤ ih1.length := by rw [l1]; simp
  have fr : Fr p ih ih1 := Fx.apps.fr.trans f1 (by simp)
  have G : ∀ j, j < 19 → ih1[ih.length + j]? = _ := fun j hj => (f1 (ih.length + j) (by simp; omega) (by omega)).trans g_appn
  walk_at "run"
  refine k_pick a0 (by simpa using a1) fun o ho => ?_
  simp only [List.mem_cons, List.not_mem_nil, or_false] at ho
  have fin := fun v h1 => k.get v ih1 h1 s1 fr (by omega)
  clear k
  rcases ho with e | e | e | e | e | e | e | e | e | e | e | e | e | e | e | e | e | e | e <;> subst e
  · exact fin _ ⟨by omega, .inl ⟨_, (show ih1[ih.length]? = _ from G 0 (by decide)), .inr ⟨_, _, rfl, trivial, trivial, by decide⟩⟩⟩
  · exact fin _ ⟨by omega, .inl ⟨_, (show ih1[ih.length + 1]? = _ from G 1 (by decide)), .inr ⟨_, _, rfl, trivial, trivial, by decide⟩⟩⟩
  · exact fin _ ⟨by omega, .inl ⟨_, (show ih1[ih.length + 2]? = _ from G 2 (by decide)), .inr ⟨_, _, rfl, trivial, trivial, by decide⟩⟩⟩
  · exact fin _ ⟨by omega, .inl ⟨_, (show ih1[ih.length + 3]? = _ from G 3 (by decide)), .inr ⟨_, _, rfl, trivial, trivial, by decide⟩⟩⟩
  · exact fin _ ⟨by omega, .inl ⟨_, (show ih1[ih.length + 4]? = _ from G 4 (by decide)), .inr ⟨_, _, rfl, trivial, trivial, by decide⟩⟩⟩
  · exact fin _ ⟨by omega, .inl ⟨_, (show ih1[ih.length + 5]? = _ from G 5 (by decide)), .inr ⟨_, _, rfl, trivial, trivial, by decide⟩⟩⟩
  · exact fin _ ⟨by omega, .inr ⟨_, by rw [(show ih1[ih.length + 6]? = _ from G 6 (by decide))]; rfl, by decide⟩⟩
  · exact fin _ ⟨by omega, .inl ⟨_, (show ih1[ih.length + 7]? = _ from G 7 (by decide)), .inl ⟨by decide, by decide⟩⟩⟩
  · exact fin _ ⟨by omega, .inl ⟨_, (show ih1[ih.length + 8]? = _ from G 8 (by decide)), .inl ⟨by decide, by decide⟩⟩⟩
  · exact fin _ trivial
  · exact fin _ trivial
  · exact fin _ ⟨by omega, .inr ⟨_, by rw [(show ih1[ih.length + 10]? = _ from G 10 (by decide))]; rfl, by decide⟩⟩
  · exact fin _ trivial
  · exact fin _ ⟨by omega, .inl ⟨_, (show ih1[ih.length + 11]? = _ from G 11 (by decide)), .inr ⟨_, _, rfl, trivial, trivial, by decide⟩⟩⟩
  · exact fin _ ⟨by omega, .inl ⟨_, (show ih1[ih.length + 13]? = _ from G 13 (by decide)), .inr ⟨_, _, rfl, ⟨by omega, _, by rw [(show ih1[ih.length + 12]? = _ from G 12 (by decide))]; rfl⟩, trivial, rfl⟩⟩⟩
  · exact fin _ ⟨by omega, .inl ⟨_, (show ih1[ih.length + 15]? = _ from G 15 (by decide)), .inr ⟨_, _, rfl, trivial, ⟨by omega, _, by rw [(show ih1[ih.length + 14]? = _ from G 14 (by decide))]; rfl⟩, rfl⟩⟩⟩
  · exact fin _ ⟨by omega, .inl ⟨_, (show ih1[ih.length + 16]? = _ from G 16 (by decide)), .inr ⟨_, _, rfl, trivial, trivial, by decide⟩⟩⟩
  · exact fin _ ⟨by omega, .inl ⟨_, (show ih1[ih.length + 17]? = _ from G 17 (by decide)), .inr ⟨_, _, rfl, trivial, trivial, by decide⟩⟩⟩
  · exact fin _ ⟨by omega, .inl ⟨_, (show ih1[ih.length + 18]? = _ from G 18 (by decide)), .inl ⟨by decide, by decide⟩⟩⟩
theorem elm_tup {k : Nat} {xs : List IV} (hp : k ≠ p) (g : ih[k]? = some (.tup xs)) (hl : xs.length < 1000) (hx : ∀ x ∈ xs, KV p ih x) : Elm p ih (.ref k) :=
  ⟨⟨hp, _, by rw [g]; rfl⟩, fun j ys e h => by cases e; rw [g] at h; cases h; exact ⟨hl, hx⟩⟩
theorem elm_lst {k : Nat} {xs : List IV} (hp : k ≠ p) (g : ih[k]? = some (.lst xs)) : Elm p ih (.ref k) :=
  ⟨⟨hp, _, by rw [g]; rfl⟩, fun j ys e h => by cases e; rw [g] at h; cases h⟩
theorem elm_non : Elm p ih .non := ⟨trivial, fun _ _ e => nomatch e⟩
theorem elm_int {z : Int} : Elm p ih (.int z) := ⟨trivial, fun _ _ e => nomatch e⟩
theorem w_odd_rows (c : Cs) (s : Src0 p m ih) (hm : m + 1 ≤ 1000000) (k : ∀ v ih', BadRows p ih' v → Src0 p (m + 1) ih' → Fr p ih ih' → ih.length ≤ ih'.length → Q v ih') : wp (m_law_odd_rows c [.ref p] ih) Q E := by
  have lp := s.lt
  have k := Hide.mk k
  unfold m_law_odd_rows b_law_odd_rows
  walk_at "run"
  refine w_next c (s.fx Fx.apps) (by decide) ((lit 18 : B 18 18).mono (by decide)) (by omega) fun a ih1 a0 a1 s1 f1 l1 => ?_
  have l1' : ih.length + 30 ≤ ih1.length := by rw [l1]; simp
  have fr : Fr p ih ih1 := Fx.apps.fr.trans f1 (by simp)
  have G : ∀ j, j < 30 → ih1[ih.length + j]? = _ := fun j hj => (f1 (ih.length + j) (by simp; omega) (by omega)).trans g_appn
  walk_at "run"
  refine k_pick a0 (by simpa using a1) fun o ho => ?_
  simp only [List.mem_cons, List.not_mem_nil, or_false] at ho
  have fin := fun v h1 => k.get v ih1 h1 s1 fr (by omega)
  clear k
  rcases ho with e | e | e | e | e | e | e | e | e | e | e | e | e | e | e | e | e | e <;> subst e
  · exact fin _ ⟨by omega, .inl ⟨_, (show ih1[ih.length]? = _ from G 0 (by decide)), by decide, (fun _ h => nomatch h), fun h => absurd rfl h⟩⟩
  · exact fin _ trivial
  · exact fin _ ⟨by omega, .inr ⟨_, by rw [(show ih1[ih.length + 1]? = _ from G 1 (by decide))]; rfl, by decide⟩⟩
  · exact fin _ ⟨by omega, .inr ⟨_, by rw [(show ih1[ih.length + 3]? = _ from G 3 (by decide))]; rfl, by decide⟩⟩
  · exact fin _ ⟨by omega, .inl ⟨_, (show ih1[ih.length + 5]? = _ from G 5 (by decide)), by simp, by
      intro x hx
      simp only [List.mem_cons, List.not_mem_nil, or_false] at hx
      subst hx
      exact (elm_tup (by omega) (show ih1[ih.length + 4]? = _ from G 4 (by decide)) (by simp) (by intro x hx; simp only [List.mem_cons, List.not_mem_nil, or_false] at hx; subst hx; exact trivial)), fun _ => by simp only [List.all_cons, List.all_nil, seenV, (show ih1[ih.length + 4]? = _ from G 4 (by decide))]; rfl⟩⟩
  · exact fin _ ⟨by omega, .inl ⟨_, (show ih1[ih.length + 7]? = _ from G 7 (by decide)), by simp, by
      intro x hx
      simp only [List.mem_cons, List.not_mem_nil, or_false] at hx
      subst hx
      exact (elm_lst (by omega) (show ih1[ih.length + 6]? = _ from G 6 (by decide))), fun _ => by simp only [List.all_cons, List.all_nil, seenV, (show ih1[ih.length + 6]? = _ from G 6 (by decide))]; rfl⟩⟩
  · exact fin _ ⟨by omega, .inl ⟨_, (show ih1[ih.length + 9]? = _ from G 9 (by decide)), by simp, by
      intro x hx
      simp only [List.mem_cons, List.not_mem_nil, or_false] at hx
      subst hx
      exact (elm_tup (by omega) (show ih1[ih.length + 8]? = _ from G 8 (by decide)) (by simp) (by
        intro x hx
        simp only [List.mem_cons, List.not_mem_nil, or_false] at hx
        rcases hx with rfl | rfl
        · exact trivial
        · exact trivial)), fun _ => by simp only [List.all_cons, List.all_nil, seenV, (show ih1[ih.length + 8]? = _ from G 8 (by decide))]; rfl⟩⟩
  · exact fin _ ⟨by omega, .inl ⟨_, (show ih1[ih.length + 11]? = _ from G 11 (by decide)), by simp, by
      intro x hx
      simp only [List.mem_cons, List.not_mem_nil, or_false] at hx
      subst hx
      exact (elm_tup (by omega) (show ih1[ih.length + 10]? = _ from G 10 (by decide)) (by simp) (by
        intro x hx
        simp only [List.mem_cons, List.not_mem_nil, or_false] at hx
        rcases hx with rfl | rfl
        · exact trivial
        · exact trivial)), fun _ => by simp only [List.all_cons, List.all_nil, seenV, (show ih1[ih.length + 10]? = _ from G 10 (by decide))]; rfl⟩⟩
  · exact fin _ ⟨by omega, .inl ⟨_, (show ih1[ih.length + 13]? = _ from G 13 (by decide)), by simp, by
      intro x hx
      simp only [List.mem_cons, List.not_mem_nil, or_false] at hx
      subst hx
      exact (elm_tup (by omega) (show ih1[ih.length + 12]? = _ from G 12 (by decide)) (by simp) (by
        intro x hx
        simp only [List.mem_cons, List.not_mem_nil, or_false] at hx
        rcases hx with rfl | rfl
        · exact trivial
        · exact trivial)), fun _ => by simp only [List.all_cons, List.all_nil, seenV, (show ih1[ih.length + 12]? = _ from G 12 (by decide))]; rfl⟩⟩
  · exact fin _ ⟨by omega, .inl ⟨_, (show ih1[ih.length + 15]? = _ from G 15 (by decide)), by simp, by
      intro x hx
      simp only [List.mem_cons, List.not_mem_nil, or_false] at hx
      subst hx
      exact (elm_tup (by omega) (show ih1[ih.length + 14]? = _ from G 14 (by decide)) (by simp) (by
        intro x hx
        simp only [List.mem_cons, List.not_mem_nil, or_false] at hx
        rcases hx with rfl | rfl
        · exact trivial
        · exact trivial)), fun _ => by simp only [List.all_cons, List.all_nil, seenV, (show ih1[ih.length + 14]? = _ from G 14 (by decide))]; rfl⟩⟩
  · exact fin _ ⟨by omega, .inr ⟨_, by rw [(show ih1[ih.length + 16]? = _ from G 16 (by decide))]; rfl, by decide⟩⟩
  · exact fin _ trivial
  · exact fin _ ⟨by omega, .inl ⟨_, (show ih1[ih.length + 20]? = _ from G 20 (by decide)), by simp, by
      intro x hx
      simp only [List.mem_cons, List.not_mem_nil, or_false] at hx
      rcases hx with rfl | rfl
      · exact (elm_tup (by omega) (show ih1[ih.length + 18]? = _ from G 18 (by decide)) (by simp) (by
        intro x hx
        simp only [List.mem_cons, List.not_mem_nil, or_false] at hx
        rcases hx with rfl | rfl
        · exact trivial
        · exact trivial))
      · exact (elm_tup (by omega) (show ih1[ih.length + 19]? = _ from G 19 (by decide)) (by simp) (by
        intro x hx
        simp only [List.mem_cons, List.not_mem_nil, or_false] at hx
        rcases hx with rfl | rfl
        · exact trivial
        · exact trivial)), fun _ => by simp only [List.all_cons, List.all_nil, seenV, (show ih1[ih.length + 18]? = _ from G 18 (by decide)), (show ih1[ih.length + 19]? = _ from G 19 (by decide))]; rfl⟩⟩
  · exact fin _ ⟨by omega, .inl ⟨_, (show ih1[ih.length + 22]? = _ from G 22 (by decide)), by simp, by
      intro x hx
      simp only [List.mem_cons, List.not_mem_nil, or_false] at hx
      subst hx
      exact (elm_tup (by omega) (show ih1[ih.length + 21]? = _ from G 21 (by decide)) (by simp) (by
        intro x hx
        simp only [List.mem_cons, List.not_mem_nil, or_false] at hx
        rcases hx with rfl | rfl | rfl
        · exact trivial
        · exact trivial
        · exact trivial)), fun _ => by simp only [List.all_cons, List.all_nil, seenV, (show ih1[ih.length + 21]? = _ from G 21 (by decide))]; rfl⟩⟩
  · exact fin _ ⟨by omega, .inl ⟨_, (show ih1[ih.length + 23]? = _ from G 23 (by decide)), by simp, by
      intro x hx
      simp only [List.mem_cons, List.not_mem_nil, or_false] at hx
      subst hx
      exact elm_non, fun _ => rfl⟩⟩
  · exact fin _ ⟨by omega, .inl ⟨_, (show ih1[ih.length + 26]? = _ from G 26 (by decide)), by simp, by
      intro x hx
      simp only [List.mem_cons, List.not_mem_nil, or_false] at hx
      rcases hx with rfl | rfl | rfl
      · exact (elm_tup (by omega) (show ih1[ih.length + 24]? = _ from G 24 (by decide)) (by simp) (by
        intro x hx
        simp only [List.mem_cons, List.not_mem_nil, or_false] at hx
        rcases hx with rfl | rfl
        · exact trivial
        · exact trivial))
      · exact (elm_tup (by omega) (show ih1[ih.length + 25]? = _ from G 25 (by decide)) (by simp) (by
        intro x hx
        simp only [List.mem_cons, List.not_mem_nil, or_false] at hx
        rcases hx with rfl | rfl
        · exact trivial
        · exact trivial))
      · exact elm_int, fun _ => by simp only [List.all_cons, List.all_nil, seenV, (show ih1[ih.length + 24]? = _ from G 24 (by decide)), (show ih1[ih.length + 25]? = _ from G 25 (by decide))]; rfl⟩⟩
  · exact fin _ ⟨by omega, .inl ⟨_, (show ih1[ih.length + 29]? = _ from G 29 (by decide)), by simp, by
      intro x hx
      simp only [List.mem_cons, List.not_mem_nil, or_false] at hx
      subst hx
      exact (elm_tup (by omega) (show ih1[ih.length + 28]? = _ from G 28 (by decide)) (by simp) (by
        intro x hx
        simp only [List.mem_cons, List.not_mem_nil, or_false] at hx
        rcases hx with rfl | rfl
        · exact ⟨by omega, _, by rw [(show ih1[ih.length + 27]? = _ from G 27 (by decide))]; rfl⟩
        · exact trivial)), fun _ => by simp only [List.all_cons, List.all_nil, seenV, (show ih1[ih.length + 28]? = _ from G 28 (by decide))]; rfl⟩⟩
  · exact fin _ trivial
end
end L3
/-! K08b: the words of calls. (L15) (L17) -/
namespace L3
open PySem PySem.Spec PyProof.Rows L2
local macro_rules | `(tactic| walk_at "get") => `(tactic| simp (disch := first | assumption | omega | (simp only [List.length_append, List.length_set, List.length_cons, List.length_nil, List.length_map] <;> omega) | fail) only [g_new, g_nw, g_old, g_set, g_sne, List.length_append, List.length_set, List.length_cons, List.length_nil, List.length_map, List.map_map, Function.comp_def, xs_lst, xs_tup, isL_lst, isL_tup, ↓reduceIte, *])
local macro_rules | `(tactic| walk_at "fr") => `(tactic| first | (intro _ _ _; simp (disch := first | assumption | omega | (simp only [List.length_append, List.length_set, List.length_cons, List.length_nil, List.length_map] <;> omega) | fail) only [g_new, g_nw, g_old, g_set, g_sne, List.length_append, List.length_set, List.length_cons, List.length_nil, List.length_map, List.map_map, Function.comp_def, xs_lst, xs_tup, isL_lst, isL_tup, ↓reduceIte, *]) | (intro _ _; simp (disch := first | assumption | omega | (simp only [List.length_append, List.length_set, List.length_cons, List.length_nil, List.length_map] <;> omega) | fail) only [g_new, g_nw, g_old, g_set, g_sne, List.length_append, List.length_set, List.length_cons, List.length_nil, List.length_map, List.map_map, Function.comp_def, xs_lst, xs_tup, isL_lst, isL_tup, ↓reduceIte, *]))
local macro_rules | `(tactic| walk_at "run") => `(tactic| simp -implicitDefEqProofs (disch := first | assumption | omega | (simp only [List.length_append, List.length_set, List.length_cons, List.length_nil, List.length_map] <;> omega) | fail) only [wp_ok, wp_exc, wp_stuck, ws_ok, ws_exc, ws_stuck, wp_op, kk_op, kk_un, wp_un, wp_cons, kk_cons, kk_cons2, wp_nil, wp_c, wp_app, wp_if, kk_if1, kk_if0, wp_and, kk_and1, kk_and0, wp_or, kk_or1, kk_or0, wp_not, kk_not, wp_tb, kk_tb, wp_andV, kk_andV1, kk_andV0, wp_orV, kk_orV1, kk_orV0, wp_notV, kk_notV, wp_noneS, wp_some, kk_some, wp_sl, kk_sl, kk_sl2, kk_sl3, wp_mL, kk_mL, kk_mL2, wp_mL0, kk_mL0, wp_chain, kk_ch, kk_ch2, kk_ch31, kk_ch30, ws_set, kks_nm, kks_g, kks_tup, kks_lst, ws_expr, kks_expr, ws_ret, kks_ret, ws_retN, ws_pass, ws_brk, ws_cont, ws_raise, ws_if, kks_if1, kks_if0, ws_seq, kks_next, kks_retS, kks_brk, kks_cont, kk_augE, ws_aug, kks_aug, kks_aug2, ws_par, kks_par, ws_setL, kks_sl, kks_sl2, kks_sl3, wp_def, kkd_ret, kkd_next, kkdE, kkE, ws_for, wp_lc, wp_r1, kk_r1, wp_r2, kk_r2, wp_il, wp_it, wp_ie, wp_iz, kk_il, kk_il2, kk_it, kk_it2, kk_ie, kk_ie2, kk_iz, kk_iz2, lAt_k, k_lAtL, k_lAtO, k_lAtT, wp_int, wp_add, wp_addI, wp_sub, wp_neg, wp_lt, wp_le, wp_gt, wp_ge, wp_max2, wp_min2, wp_abs, wp_mulI, wp_mul, wp_fdiv, wp_mod, wp_shl, wp_shr, wp_pow, wp_isN, wp_notN, wp_eqI, wp_neI, wp_ix, kk_ix, kk_ix2, wp_len, kk_lenL, kk_lenT, kk_lenO, kk_lenP, wp_appd, kk_app1, isL_k, kk_isL, startI_cons, startI_nil, rep_succ, rep_zero, List.getElem?_cons_zero, List.getElem?_cons_succ, List.set_cons_zero, List.set_cons_succ, f_call, m_var, List.append_nil, List.nil_append, List.cons_append, List.length_cons, List.length_nil, if_true, if_false, g_tup, g_lst, g_cons, g_nil, g_nm, Option.bind_some, kks_g, atI_0, atI_1, atI_2, atI_3, atI_4, atI_5, atI_6, atI_7, atI_8, atI_9, atI_10, atI_11, atI_12, atI_last, cutI_1, ixN_30, ixN_31, ixN_32, Int.toNat_zero, Int.reduceToNat, Int.reduceNeg, xs_lst, xs_tup, xs_ro, xs_rot, isL_lst, isL_tup, isL_ro, isL_rot, isT_tup, isT_rot, Bool.false_eq_true, Bool.true_eq_false, Bool.not_true, Bool.not_false, decide_true, decide_false, Int.reduceLT, Int.reduceLE, Nat.reduceLT, Nat.reduceLeDiff, Nat.reduceAdd, Nat.reduceEqDiff, Bool.not_eq_true, true_and, and_true, and_self, eq_self, g_new, g_nw, g_old, g_set, g_sne, List.length_set, List.length_append, wp_r3, kk_r3, Int.cast_ofNat_Int, Int.reduceEq, Int.natCast_zero, Int.natCast_one, ws_whileA, wp_isiII, wp_isiIB, wp_isiI_list, wp_isiI_tuple, wp_isiI_str, wp_isiR, tyO_l, tyO_t, kk_isi, kk_isi2, kit_ll, kit_tt, kit_lt, kit_tl, wp_isiN, wp_isiBl, wp_isiS, tyO_d, kit2_NoneType_int, kit2_NoneType_bool, kit2_NoneType_list, kit2_NoneType_tuple, kit2_NoneType_str, kit2_bool_int, kit2_bool_bool, kit2_bool_list, kit2_bool_tuple, kit2_bool_str, kit2_str_int, kit2_str_bool, kit2_str_list, kit2_str_tuple, kit2_str_str, kit2_dict_int, kit2_dict_bool, kit2_dict_list, kit2_dict_tuple, kit2_dict_str, kit2_list_int, kit2_list_bool, kit2_list_str, kit2_tuple_int, kit2_tuple_bool, kit2_tuple_str, kit2_int_list, kit2_int_tuple, kit2_int_str, kf_next, kf_cont, kf_brk, kf_ret, wipeI, wp_lstE, wp_tupE, wp_dctE, wp_lamE, wp_catE, kk_catL, g_appn, g_app0, g_appo, g_setn, g_set0, List.append_assoc, Nat.zero_add, ws_try, wp_isEg, wp_isEt, kk_isE, wp_neS, wp_int2, ↓reduceIte, *])
abbrev wordsL : List IV := [.str "width", .str "looks", .str "cycle", .str "rate", .str "reading", .str "line"]
theorem ts_run (c : Cs) (lams : Nat → Nat → IH → Res IV) (cl : Addr) {b1 b2 b3 b4 b5 b6 : Bool} {x : Str} {j : Nat} {v0 v2 : Option IV} (hE : ExcC c.K cl)
    (k1 : PySem.W.kitOne c.K (.ref cl) (.ref c.NoWidth) = some b1) (k2 : PySem.W.kitOne c.K (.ref cl) (.ref c.NoLooks) = some b2) (k3 : PySem.W.kitOne c.K (.ref cl) (.ref c.NoCycle) = some b3)
    (k4 : PySem.W.kitOne c.K (.ref cl) (.ref c.NoRate) = some b4) (k5 : PySem.W.kitOne c.K (.ref cl) (.ref c.NoReading) = some b5) (k6 : PySem.W.kitOne c.K (.ref cl) (.ref c.NoLine) = some b6)
    (k7 : PySem.W.kitOne c.K (.ref cl) (.type "ValueError") = some true) (ih : IH)
    (hc : (([b1, b2, b3, b4, b5, b6].map IV.bl).countP (eqI (.bl true)) : Int) = 1) (hi : ([b1, b2, b3, b4, b5, b6].map IV.bl).findIdx? (eqI (.bl true)) = some j) (hx : atI wordsL (j : Int) = some (.str x)) :
    ∃ ih', Fx ih ih' ∧ ih.length ≤ ih'.length ∧ ∀ a, ts_law_word_1 c lams a cl [v0, some (.gl a), v2] ih = .ok (.ret (.str x)) ih' := by
  have key : ∀ a, ws (ts_law_word_1 c lams a cl [v0, some (.gl a), v2] ih) (fun f ih' => f = .ret (.str x) ∧ ih' = ih ++ [.lst [.bl b1, .bl b2, .bl b3, .bl b4], .lst [.bl b5, .bl b6], .lst [.bl b1, .bl b2, .bl b3, .bl b4, .bl b5, .bl b6], .lst wordsL]) S0 := fun a => by
    unfold ts_law_word_1
    walk_at "run"
    refine wp_count (k := 1) (xs := [.bl b1, .bl b2, .bl b3, .bl b4, .bl b5, .bl b6]) (by walk_at "run") rfl hc ?_
    walk_at "run"
    refine wp_index (j := j) (xs := [.bl b1, .bl b2, .bl b3, .bl b4, .bl b5, .bl b6]) (by walk_at "run") rfl hi ?_
    walk_at "run"
  refine ⟨?w, ?_, ?_, fun a => ?_⟩
  rotate_left 3
  · obtain ⟨f, ih', e, e1, e2⟩ := (key a).out
    rw [e, e1, e2]
  · exact Fx.apps
  · simp
section
variable {p m : Nat} {ih : IH} {v : IV} {Q : PQ IV} {E : EQ}
def Wd (c : Cs) (cl : Addr) (x : Str) : Prop := (cl = c.NoWidth ∧ x = "width") ∨ (cl = c.NoCycle ∧ x = "cycle") ∨ (cl = c.NoRate ∧ x = "rate") ∨ (cl = c.NoReading ∧ x = "reading")
theorem word_of (c : Cs) (ok : CsOk c) (lams : Nat → Nat → IH → Res IV) {cl : Addr} {x : Str} (h : Wd c cl x) (ih : IH) {S : SQ} {F : ES} (q : ∀ ih', ih.length ≤ ih'.length → Fx ih ih' → S (.ret (.str x)) ih')
    (v0 v1 v2 : Option IV) : k_try 1 (fun cl => PySem.W.exmOne c.K (.ref cl) (.ref c.KernelError)) (fun ea ec => ts_law_word_1 c lams ea ec) S F cl [v0, v1, v2] ih := by
  rcases h with ⟨rfl, rfl⟩ | ⟨rfl, rfl⟩ | ⟨rfl, rfl⟩ | ⟨rfl, rfl⟩
  · obtain ⟨ih', f, l, e⟩ := ts_run c lams c.NoWidth (j := 0) (x := "width") (v0 := v0) (v2 := v2) ok.xc_NoWidth ok.xi_NoWidth_NoWidth ok.xi_NoWidth_NoLooks ok.xi_NoWidth_NoCycle ok.xi_NoWidth_NoRate ok.xi_NoWidth_NoReading ok.xi_NoWidth_NoLine ok.xi_NoWidth_ValueError ih (by decide) (by decide) rfl
    exact kk_try ok.xm_NoWidth_KernelError e (q ih' l f)
  · obtain ⟨ih', f, l, e⟩ := ts_run c lams c.NoCycle (j := 2) (x := "cycle") (v0 := v0) (v2 := v2) ok.xc_NoCycle ok.xi_NoCycle_NoWidth ok.xi_NoCycle_NoLooks ok.xi_NoCycle_NoCycle ok.xi_NoCycle_NoRate ok.xi_NoCycle_NoReading ok.xi_NoCycle_NoLine ok.xi_NoCycle_ValueError ih (by decide) (by decide) rfl
    exact kk_try ok.xm_NoCycle_KernelError e (q ih' l f)
  · obtain ⟨ih', f, l, e⟩ := ts_run c lams c.NoRate (j := 3) (x := "rate") (v0 := v0) (v2 := v2) ok.xc_NoRate ok.xi_NoRate_NoWidth ok.xi_NoRate_NoLooks ok.xi_NoRate_NoCycle ok.xi_NoRate_NoRate ok.xi_NoRate_NoReading ok.xi_NoRate_NoLine ok.xi_NoRate_ValueError ih (by decide) (by decide) rfl
    exact kk_try ok.xm_NoRate_KernelError e (q ih' l f)
  · obtain ⟨ih', f, l, e⟩ := ts_run c lams c.NoReading (j := 4) (x := "reading") (v0 := v0) (v2 := v2) ok.xc_NoReading ok.xi_NoReading_NoWidth ok.xi_NoReading_NoLooks ok.xi_NoReading_NoCycle ok.xi_NoReading_NoRate ok.xi_NoReading_NoReading ok.xi_NoReading_NoLine ok.xi_NoReading_ValueError ih (by decide) (by decide) rfl
    exact kk_try ok.xm_NoReading_KernelError e (q ih' l f)
/-- a lambda that raises, called by the word -/
theorem w_wordE (c : Cs) (ok : CsOk c) {lams : Nat → Nat → IH → Res IV} {n e j : Nat} {cl : Addr} {x : Str} {Pz : IH → Prop} (h : Wd c cl x) (g : ih[n]? = some (.fn e j)) (hl : wp (lams e j ih) (fun _ _ => False) (fun c' ih' => c' = cl ∧ Pz ih'))
    (q : ∀ ih1 ih2, Pz ih1 → ih1.length ≤ ih2.length → Fx ih1 ih2 → Q (.str x) ih2) : wp (defRun 3 (b_law_word c lams) [.ref n] ih) Q E := by
  unfold b_law_word
  rw [wp_def, ws_try]
  unfold tb_law_word_1
  have hl := Hide.mk hl
  have q := Hide.mk q
  generalize hK : k_try 1 (fun cl => PySem.W.exmOne c.K (.ref cl) (.ref c.KernelError)) (fun ea ec => ts_law_word_1 c lams ea ec) (kd Q) (kdE E) = K
  have hK := Hide.mk hK
  walk_at "run"
  refine wp_call0 rfl g ?_
  refine wp.imp hl.get (fun _ _ h => h.elim) fun c' ih' ⟨e1, hP⟩ => ?_
  subst e1
  rw [kkE, ← hK.get]
  exact word_of c ok lams h ih' (fun ih2 l f => q.get ih' ih2 hP l f) _ _ _
/-- the words of calls in a list -/
theorem lc_words {env : Env} {vs : List Nat} {i0 q : Nat} {me : Env → IH → Res IV} {ns : List Nat} {ws : List Str} (s : Src0 p m ih) (hq : ih[q]? = some (.lst (ns.map IV.ref))) (qp : q ≠ p) (hl : ns.length = ws.length) (hz : ns.length < 1000)
    (he : ∀ i n x, ns[i]? = some n → ws[i]? = some x → ∀ ih', Src0 p (m + i) ih' → Fr p ih ih' → ih.length < ih'.length → wp (me ((wipeI env vs).set i0 (some (.ref n))) ih') (fun v ih'' => v = .str x ∧ Src0 p (m + (i + 1)) ih'' ∧ Fr p ih' ih'' ∧ ih'.length ≤ ih''.length) E0)
    (k : ∀ ih', Src0 p (m + ns.length) ih' → Fr p ih ih' → ih.length < ih'.length → ih'[ih.length]? = some (.lst (ws.map IV.str)) → Q (.ref ih.length) ih') : k_lc vs (g_nm i0) n_yes me env Q E (.lst q) ih := by
  have ql := lt_of_get hq
  have hsz : (Src.lst q).size ih = ns.length := by
    unfold Src.size
    dsimp only
    rw [hq]
    show (ns.map IV.ref).length = _
    rw [List.length_map]
  refine lc_gen ns.length (fun i acc ih' => acc = (ws.take i).map IV.str ∧ Src0 p (m + i) ih' ∧ Fr p ih ih' ∧ ih.length < ih'.length) (by rw [hsz]; exact Nat.le_refl _) ⟨rfl, s.fx Fx.app, Fx.app.fr, by simp⟩ (fun i acc ih' hi ⟨ha, s', fr, lx⟩ hd => ?_) (fun acc ih' ⟨ha, s', fr, lx⟩ _ => ?_) fun acc ih' ⟨ha, s', fr, lx⟩ hd => ?_
  · have g1 : ih'[q]? = some (.lst (ns.map IV.ref)) := by rw [fr q ql qp]; exact hq
    obtain ⟨n, hn⟩ : ∃ n, ns[i]? = some n := ⟨_, List.getElem?_eq_getElem hi⟩
    obtain ⟨x, hx⟩ : ∃ x, ws[i]? = some x := ⟨_, List.getElem?_eq_getElem (by omega)⟩
    with_unfolding_all refine ⟨.ref n, _, _, turn_lst g1 rfl (by show (ns.map IV.ref)[i]? = _; rw [List.getElem?_map, hn]; rfl), rfl, ⟨(fun h => nomatch h), fun _ => wp.imp (he i n x hn hx ih' s' fr lx) (fun v ih2 hv => ?_) fun _ _ h => h⟩⟩
    obtain ⟨rfl, s2, f2, l2⟩ := hv
    have lp := s.lt
    have hd2 : ih2[ih.length]? = some (.lst acc) := by rw [f2 _ lx (by omega)]; exact hd
    refine ⟨hd2, by rw [ha, List.length_map, List.length_take]; omega, ?_, s2.set (by omega), (fr.trans f2 (by omega)).set (Nat.le_refl _), by rw [List.length_set]; omega⟩
    rw [ha, List.take_add_one, hx, List.map_append]
    rfl
  · have g1 : ih'[q]? = some (.lst (ns.map IV.ref)) := by rw [fr q ql qp]; exact hq
    have := stop_lst g1 rfl
    rw [show (MO.lst (ns.map IV.ref)).xs.length = ns.length from List.length_map _] at this
    exact this
  · rw [ha, hl, List.take_length] at hd
    exact k ih' s' fr lx hd
end
end L3
/-! K08c: each call is refused. (L15) (L17) -/
namespace L3
open PySem PySem.Spec PyProof.Rows L2
local macro_rules | `(tactic| walk_at "get") => `(tactic| simp (disch := first | assumption | omega | (simp only [List.length_append, List.length_set, List.length_cons, List.length_nil, List.length_map] <;> omega) | fail) only [g_new, g_nw, g_old, g_set, g_sne, List.length_append, List.length_set, List.length_cons, List.length_nil, List.length_map, List.map_map, Function.comp_def, xs_lst, xs_tup, isL_lst, isL_tup, ↓reduceIte, *])
local macro_rules | `(tactic| walk_at "fr") => `(tactic| first | (intro _ _ _; simp (disch := first | assumption | omega | (simp only [List.length_append, List.length_set, List.length_cons, List.length_nil, List.length_map] <;> omega) | fail) only [g_new, g_nw, g_old, g_set, g_sne, List.length_append, List.length_set, List.length_cons, List.length_nil, List.length_map, List.map_map, Function.comp_def, xs_lst, xs_tup, isL_lst, isL_tup, ↓reduceIte, *]) | (intro _ _; simp (disch := first | assumption | omega | (simp only [List.length_append, List.length_set, List.length_cons, List.length_nil, List.length_map] <;> omega) | fail) only [g_new, g_nw, g_old, g_set, g_sne, List.length_append, List.length_set, List.length_cons, List.length_nil, List.length_map, List.map_map, Function.comp_def, xs_lst, xs_tup, isL_lst, isL_tup, ↓reduceIte, *]))
local macro_rules | `(tactic| walk_at "run") => `(tactic| simp -implicitDefEqProofs (disch := first | assumption | omega | (simp only [List.length_append, List.length_set, List.length_cons, List.length_nil, List.length_map] <;> omega) | fail) only [wp_ok, wp_exc, wp_stuck, ws_ok, ws_exc, ws_stuck, wp_op, kk_op, kk_un, wp_un, wp_cons, kk_cons, kk_cons2, wp_nil, wp_c, wp_app, wp_if, kk_if1, kk_if0, wp_and, kk_and1, kk_and0, wp_or, kk_or1, kk_or0, wp_not, kk_not, wp_tb, kk_tb, wp_andV, kk_andV1, kk_andV0, wp_orV, kk_orV1, kk_orV0, wp_notV, kk_notV, wp_noneS, wp_some, kk_some, wp_sl, kk_sl, kk_sl2, kk_sl3, wp_mL, kk_mL, kk_mL2, wp_mL0, kk_mL0, wp_chain, kk_ch, kk_ch2, kk_ch31, kk_ch30, ws_set, kks_nm, kks_g, kks_tup, kks_lst, ws_expr, kks_expr, ws_ret, kks_ret, ws_retN, ws_pass, ws_brk, ws_cont, ws_raise, ws_if, kks_if1, kks_if0, ws_seq, kks_next, kks_retS, kks_brk, kks_cont, kk_augE, ws_aug, kks_aug, kks_aug2, ws_par, kks_par, ws_setL, kks_sl, kks_sl2, kks_sl3, wp_def, kkd_ret, kkd_next, kkdE, kkE, ws_for, wp_lc, wp_r1, kk_r1, wp_r2, kk_r2, wp_il, wp_it, wp_ie, wp_iz, kk_il, kk_il2, kk_it, kk_it2, kk_ie, kk_ie2, kk_iz, kk_iz2, lAt_k, k_lAtL, k_lAtO, k_lAtT, wp_int, wp_add, wp_addI, wp_sub, wp_neg, wp_lt, wp_le, wp_gt, wp_ge, wp_max2, wp_min2, wp_abs, wp_mulI, wp_mul, wp_fdiv, wp_mod, wp_shl, wp_shr, wp_pow, wp_isN, wp_notN, wp_eqI, wp_neI, wp_ix, kk_ix, kk_ix2, wp_len, kk_lenL, kk_lenT, kk_lenO, kk_lenP, wp_appd, kk_app1, isL_k, kk_isL, startI_cons, startI_nil, rep_succ, rep_zero, List.getElem?_cons_zero, List.getElem?_cons_succ, List.set_cons_zero, List.set_cons_succ, f_call, m_var, List.append_nil, List.nil_append, List.cons_append, List.length_cons, List.length_nil, if_true, if_false, g_tup, g_lst, g_cons, g_nil, g_nm, Option.bind_some, kks_g, atI_0, atI_1, atI_2, atI_3, atI_4, atI_5, atI_6, atI_7, atI_8, atI_9, atI_10, atI_11, atI_12, atI_last, cutI_1, ixN_30, ixN_31, ixN_32, Int.toNat_zero, Int.reduceToNat, Int.reduceNeg, xs_lst, xs_tup, xs_ro, xs_rot, isL_lst, isL_tup, isL_ro, isL_rot, isT_tup, isT_rot, Bool.false_eq_true, Bool.true_eq_false, Bool.not_true, Bool.not_false, decide_true, decide_false, Int.reduceLT, Int.reduceLE, Nat.reduceLT, Nat.reduceLeDiff, Nat.reduceAdd, Nat.reduceEqDiff, Bool.not_eq_true, true_and, and_true, and_self, eq_self, g_new, g_nw, g_old, g_set, g_sne, List.length_set, List.length_append, wp_r3, kk_r3, Int.cast_ofNat_Int, Int.reduceEq, Int.natCast_zero, Int.natCast_one, ws_whileA, wp_isiII, wp_isiIB, wp_isiI_list, wp_isiI_tuple, wp_isiI_str, wp_isiR, tyO_l, tyO_t, kk_isi, kk_isi2, kit_ll, kit_tt, kit_lt, kit_tl, wp_isiN, wp_isiBl, wp_isiS, tyO_d, kit2_NoneType_int, kit2_NoneType_bool, kit2_NoneType_list, kit2_NoneType_tuple, kit2_NoneType_str, kit2_bool_int, kit2_bool_bool, kit2_bool_list, kit2_bool_tuple, kit2_bool_str, kit2_str_int, kit2_str_bool, kit2_str_list, kit2_str_tuple, kit2_str_str, kit2_dict_int, kit2_dict_bool, kit2_dict_list, kit2_dict_tuple, kit2_dict_str, kit2_list_int, kit2_list_bool, kit2_list_str, kit2_tuple_int, kit2_tuple_bool, kit2_tuple_str, kit2_int_list, kit2_int_tuple, kit2_int_str, kf_next, kf_cont, kf_brk, kf_ret, wipeI, wp_lstE, wp_tupE, wp_dctE, wp_lamE, wp_catE, kk_catL, g_appn, g_app0, g_appo, g_setn, g_set0, List.append_assoc, Nat.zero_add, ws_try, wp_isEg, wp_isEt, kk_isE, wp_neS, wp_int2, ↓reduceIte, *])
/-- what was drawn -/
structure Drawn (p : Nat) (ih : IH) (t : Nat) (a b : Int) (v2 v3 v4 v5 v6 v7 v8 : IV) : Prop where
  tp : t ≠ p
  g : ih[t]? = some (.tup [.int a, .int b])
  a0 : 1 ≤ a
  a1 : a ≤ 99
  b0 : 0 ≤ b
  b1 : b ≤ 64
  o2 : OddR p ih v2
  o3 : KV p ih v3
  w3 : whl 0 v3 = false
  o4 : KV p ih v4
  w4 : whl 1 v4 = false
  o5 : BadRows p ih v5
  o6 : OddW p ih v6
  o7 : KV p ih v7
  w7 : goodS v7 = false
section
variable {p m t : Nat} {ih ih' : IH} {a b : Int} {v2 v3 v4 v5 v6 v7 v8 : IV} {Q : PQ IV} {E : EQ}
theorem Drawn.fr (d : Drawn p ih t a b v2 v3 v4 v5 v6 v7 v8) (f : Fr p ih ih') : Drawn p ih' t a b v2 v3 v4 v5 v6 v7 v8 := by
  obtain ⟨h1, h2, h3, h4, h5, h6, h7, h8, h9, h10, h11, h12, h13, h14, h15⟩ := d
  exact ⟨h1, (f t (lt_of_get h2) h1).trans h2, h3, h4, h5, h6, h7.fr f, h8.fr f, h9, h10.fr f, h11, h12.fr f, h13.fr f, h14.fr f, h15⟩
abbrev EV (p t : Nat) (v2 v3 v4 v5 v6 v7 v8 : IV) (o : Option IV) : Env := [some (.ref p), some (.ref t), some v2, some v3, some v4, some v5, some v6, some v7, some v8, o, none]
theorem w_bestO (c : Cs) {x y z : IV} (h : (KV p ih x ∧ whl 1 x = false) ∨ (∃ i, x = .int i ∧ 1 ≤ i ∧ ((KV p ih y ∧ whl 1 y = false) ∨ ∃ j, y = .int j ∧ 1 ≤ j ∧ KV p ih z ∧ whl 1 z = false))) (q : E c.NoRate ih) : wp (m_best_rate c [x, y, z] ih) Q E := by
  unfold m_best_rate b_best_rate
  rcases h with ⟨h1, h2⟩ | ⟨i, rfl, i0, ⟨h1, h2⟩ | ⟨j, rfl, j0, h1, h2⟩⟩
  · walk_at "run"
    refine w_wholeV c h1 1 ?_
    walk_at "run"
    all_goals exact q
  · have e := q_whole c i 1
    walk_at "run"
    refine w_wholeV c h1 1 ?_
    walk_at "run"
    all_goals exact q
  · have e := q_whole c i 1
    have e2 := q_whole c j 1
    walk_at "run"
    refine w_wholeV c h1 1 ?_
    walk_at "run"
    all_goals exact q
/-- what each lambda raises -/
theorem w_lams (c : Cs) {e0 j : Nat} {o : Option IV} (hj : j < 11) (s : Src0 p m ih) (hm : m + 1 ≤ 1000000) (d : Drawn p ih t a b v2 v3 v4 v5 v6 v7 v8) :
    wp (lams_law_all_refused c e0 j (EV p t v2 v3 v4 v5 v6 v7 v8 o) ih) (fun _ _ => False) (fun c' ih' => c' = (if j < 7 then c.NoRate else if j = 7 then c.NoCycle else if j = 9 then c.NoWidth else c.NoReading) ∧ Src0 p (m + 1) ih' ∧ Fr p ih ih' ∧ ih.length ≤ ih'.length) := by
  have fin0 : Src0 p (m + 1) ih ∧ Fr p ih ih ∧ ih.length ≤ ih.length := ⟨s.mono (by omega), Fr.refl, Nat.le_refl _⟩
  have fin := Hide.mk fin0
  clear fin0
  obtain ⟨tp, g, a0, a1, b0, b1, o2, o3, w3, o4, w4, o5, o6, o7, w7⟩ := d
  have a1' : a < 2 ^ 64 := by omega
  match j, hj with
  | 0, _ =>
    show wp (ll_law_all_refused_1 c e0 _ ih) _ _
    unfold ll_law_all_refused_1
    walk_at "run"
    unfold m_rate_reading b_rate_reading
    walk_at "run"
    exact w_rateO c o2 ⟨rfl, fin.get⟩
  | 1, _ =>
    show wp (ll_law_all_refused_2 c e0 _ ih) _ _
    unfold ll_law_all_refused_2
    walk_at "run"
    unfold m_first_cycle b_first_cycle
    walk_at "run"
    exact w_rateO c o2 ⟨rfl, fin.get⟩
  | 2, _ =>
    have e := q_width c (w := 64) (by decide) (by decide)
    show wp (ll_law_all_refused_3 c e0 _ ih) _ _
    unfold ll_law_all_refused_3
    walk_at "run"
    unfold m_longest_span b_longest_span
    walk_at "run"
    exact w_rateO c o2 ⟨rfl, fin.get⟩
  | 3, _ =>
    show wp (ll_law_all_refused_4 c e0 _ ih) _ _
    unfold ll_law_all_refused_4
    walk_at "run"
    exact w_bestO c (.inl ⟨o4, w4⟩) ⟨rfl, fin.get⟩
  | 4, _ =>
    show wp (ll_law_all_refused_5 c e0 _ ih) _ _
    unfold ll_law_all_refused_5
    walk_at "run"
    exact w_bestO c (.inr ⟨_, rfl, by decide, .inl ⟨o4, w4⟩⟩) ⟨rfl, fin.get⟩
  | 5, _ =>
    show wp (ll_law_all_refused_6 c e0 _ ih) _ _
    unfold ll_law_all_refused_6
    walk_at "run"
    exact w_bestO c (.inr ⟨_, rfl, by decide, .inr ⟨_, rfl, by decide, o4, w4⟩⟩) ⟨rfl, fin.get⟩
  | 6, _ =>
    show wp (ll_law_all_refused_7 c e0 _ ih) _ _
    unfold ll_law_all_refused_7
    walk_at "run"
    exact w_ratesS c o7 w7 ⟨rfl, fin.get⟩
  | 7, _ =>
    have e := fun Q E => q_rate c g a0 a1' b0 b1 Q E
    show wp (ll_law_all_refused_8 c e0 _ ih) _ _
    unfold ll_law_all_refused_8
    walk_at "run"
    unfold m_rate_reading b_rate_reading
    walk_at "run"
    exact w_cycleO c o3 w3 ⟨rfl, fin.get⟩
  | 8, _ =>
    have e := fun Q E => q_rate c g a0 a1' b0 b1 Q E
    show wp (ll_law_all_refused_9 c e0 _ ih) _ _
    unfold ll_law_all_refused_9
    walk_at "run"
    unfold m_first_cycle b_first_cycle
    walk_at "run"
    refine w_wholeV c o3 0 ?_
    walk_at "run"
    exact fin.get
  | 9, _ =>
    show wp (ll_law_all_refused_10 c e0 _ ih) _ _
    unfold ll_law_all_refused_10
    walk_at "run"
    unfold m_longest_span b_longest_span
    walk_at "run"
    exact w_widthO c o6 ⟨rfl, fin.get⟩
  | 10, _ =>
    show wp (ll_law_all_refused_11 c e0 _ ih) _ _
    unfold ll_law_all_refused_11
    walk_at "run"
    refine w_next c s (by decide) ((lit 7 : B 7 65).mono (by decide)) (by omega) fun z ih1 z0 z1 s1 f1 l1 => ?_
    have o5 := o5.fr f1
    have f1 := Hide.mk f1
    walk_at "run"
    exact w_ratesR c z0 (by omega) o5 fun ih2 l2 f2 => ⟨rfl, s1.fx f2, f1.get.trans f2.fr (by omega), by omega⟩
end
end L3
/-! K08d: all refused. (L15) (L17) -/
namespace L3
open PySem PySem.Spec PyProof.Rows L2
local macro_rules | `(tactic| walk_at "get") => `(tactic| simp (disch := first | assumption | omega | (simp only [List.length_append, List.length_set, List.length_cons, List.length_nil, List.length_map] <;> omega) | fail) only [g_new, g_nw, g_old, g_set, g_sne, List.length_append, List.length_set, List.length_cons, List.length_nil, List.length_map, List.map_map, Function.comp_def, xs_lst, xs_tup, isL_lst, isL_tup, ↓reduceIte, *])
local macro_rules | `(tactic| walk_at "fr") => `(tactic| first | (intro _ _ _; simp (disch := first | assumption | omega | (simp only [List.length_append, List.length_set, List.length_cons, List.length_nil, List.length_map] <;> omega) | fail) only [g_new, g_nw, g_old, g_set, g_sne, List.length_append, List.length_set, List.length_cons, List.length_nil, List.length_map, List.map_map, Function.comp_def, xs_lst, xs_tup, isL_lst, isL_tup, ↓reduceIte, *]) | (intro _ _; simp (disch := first | assumption | omega | (simp only [List.length_append, List.length_set, List.length_cons, List.length_nil, List.length_map] <;> omega) | fail) only [g_new, g_nw, g_old, g_set, g_sne, List.length_append, List.length_set, List.length_cons, List.length_nil, List.length_map, List.map_map, Function.comp_def, xs_lst, xs_tup, isL_lst, isL_tup, ↓reduceIte, *]))
local macro_rules | `(tactic| walk_at "run") => `(tactic| simp -implicitDefEqProofs (disch := first | assumption | omega | (simp only [List.length_append, List.length_set, List.length_cons, List.length_nil, List.length_map] <;> omega) | fail) only [wp_ok, wp_exc, wp_stuck, ws_ok, ws_exc, ws_stuck, wp_op, kk_op, kk_un, wp_un, wp_cons, kk_cons, kk_cons2, wp_nil, wp_c, wp_app, wp_if, kk_if1, kk_if0, wp_and, kk_and1, kk_and0, wp_or, kk_or1, kk_or0, wp_not, kk_not, wp_tb, kk_tb, wp_andV, kk_andV1, kk_andV0, wp_orV, kk_orV1, kk_orV0, wp_notV, kk_notV, wp_noneS, wp_some, kk_some, wp_sl, kk_sl, kk_sl2, kk_sl3, wp_mL, kk_mL, kk_mL2, wp_mL0, kk_mL0, wp_chain, kk_ch, kk_ch2, kk_ch31, kk_ch30, ws_set, kks_nm, kks_g, kks_tup, kks_lst, ws_expr, kks_expr, ws_ret, kks_ret, ws_retN, ws_pass, ws_brk, ws_cont, ws_raise, ws_if, kks_if1, kks_if0, ws_seq, kks_next, kks_retS, kks_brk, kks_cont, kk_augE, ws_aug, kks_aug, kks_aug2, ws_par, kks_par, ws_setL, kks_sl, kks_sl2, kks_sl3, wp_def, kkd_ret, kkd_next, kkdE, kkE, ws_for, wp_lc, wp_r1, kk_r1, wp_r2, kk_r2, wp_il, wp_it, wp_ie, wp_iz, kk_il, kk_il2, kk_it, kk_it2, kk_ie, kk_ie2, kk_iz, kk_iz2, lAt_k, k_lAtL, k_lAtO, k_lAtT, wp_int, wp_add, wp_addI, wp_sub, wp_neg, wp_lt, wp_le, wp_gt, wp_ge, wp_max2, wp_min2, wp_abs, wp_mulI, wp_mul, wp_fdiv, wp_mod, wp_shl, wp_shr, wp_pow, wp_isN, wp_notN, wp_eqI, wp_neI, wp_ix, kk_ix, kk_ix2, wp_len, kk_lenL, kk_lenT, kk_lenO, kk_lenP, wp_appd, kk_app1, isL_k, kk_isL, startI_cons, startI_nil, rep_succ, rep_zero, List.getElem?_cons_zero, List.getElem?_cons_succ, List.set_cons_zero, List.set_cons_succ, f_call, m_var, List.append_nil, List.nil_append, List.cons_append, List.length_cons, List.length_nil, if_true, if_false, g_tup, g_lst, g_cons, g_nil, g_nm, Option.bind_some, kks_g, atI_0, atI_1, atI_2, atI_3, atI_4, atI_5, atI_6, atI_7, atI_8, atI_9, atI_10, atI_11, atI_12, atI_last, cutI_1, ixN_30, ixN_31, ixN_32, Int.toNat_zero, Int.reduceToNat, Int.reduceNeg, xs_lst, xs_tup, xs_ro, xs_rot, isL_lst, isL_tup, isL_ro, isL_rot, isT_tup, isT_rot, Bool.false_eq_true, Bool.true_eq_false, Bool.not_true, Bool.not_false, decide_true, decide_false, Int.reduceLT, Int.reduceLE, Nat.reduceLT, Nat.reduceLeDiff, Nat.reduceAdd, Nat.reduceEqDiff, Bool.not_eq_true, true_and, and_true, and_self, eq_self, g_new, g_nw, g_old, g_set, g_sne, List.length_set, List.length_append, wp_r3, kk_r3, Int.cast_ofNat_Int, Int.reduceEq, Int.natCast_zero, Int.natCast_one, ws_whileA, wp_isiII, wp_isiIB, wp_isiI_list, wp_isiI_tuple, wp_isiI_str, wp_isiR, tyO_l, tyO_t, kk_isi, kk_isi2, kit_ll, kit_tt, kit_lt, kit_tl, wp_isiN, wp_isiBl, wp_isiS, tyO_d, kit2_NoneType_int, kit2_NoneType_bool, kit2_NoneType_list, kit2_NoneType_tuple, kit2_NoneType_str, kit2_bool_int, kit2_bool_bool, kit2_bool_list, kit2_bool_tuple, kit2_bool_str, kit2_str_int, kit2_str_bool, kit2_str_list, kit2_str_tuple, kit2_str_str, kit2_dict_int, kit2_dict_bool, kit2_dict_list, kit2_dict_tuple, kit2_dict_str, kit2_list_int, kit2_list_bool, kit2_list_str, kit2_tuple_int, kit2_tuple_bool, kit2_tuple_str, kit2_int_list, kit2_int_tuple, kit2_int_str, kf_next, kf_cont, kf_brk, kf_ret, wipeI, wp_lstE, wp_tupE, wp_dctE, wp_lamE, wp_catE, kk_catL, g_appn, g_app0, g_appo, g_setn, g_set0, List.append_assoc, Nat.zero_add, ws_try, wp_isEg, wp_isEt, kk_isE, wp_neS, wp_int2, ↓reduceIte, *])
section
variable {p m t : Nat} {ih ih' : IH} {a b : Int} {v2 v3 v4 v5 v6 v7 v8 : IV} {Q : PQ IV} {E : EQ}
abbrev rates7 : List Str := ["rate", "rate", "rate", "rate", "rate", "rate", "rate"]
abbrev words4 : List Str := ["cycle", "reading", "width", "reading"]
def clsJ (c : Cs) (j : Nat) : Addr := if j < 7 then c.NoRate else if j = 7 then c.NoCycle else if j = 9 then c.NoWidth else c.NoReading
theorem w_elt (c : Cs) (ok : CsOk c) {e0 j n : Nat} {x : Str} {o : Option IV} (hj : j < 11) (hW : Wd c (clsJ c j) x) (g : ih[n]? = some (.fn e0 j)) (s : Src0 p m ih) (hm : m + 1 ≤ 1000000) (d : Drawn p ih t a b v2 v3 v4 v5 v6 v7 v8) :
    wp (m_callV [10] 1 3 e0 (b_law_word c) (lams_law_all_refused c e0) m_nil (m_var 10) [some (.ref p), some (.ref t), some v2, some v3, some v4, some v5, some v6, some v7, some v8, o, some (.ref n)] ih) (fun v ih'' => v = .str x ∧ Src0 p (m + 1) ih'' ∧ Fr p ih ih'' ∧ ih.length ≤ ih''.length) E0 := by
  refine wp_callV ?_
  refine wp.of (a := .ref n) (b := ih) rfl ?_
  refine w_wordE c ok (cl := clsJ c j) (Pz := fun ih' => Src0 p (m + 1) ih' ∧ Fr p ih ih' ∧ ih.length ≤ ih'.length) hW g ?_ fun ih1 ih2 ⟨h1, h2, h3⟩ l f => ⟨rfl, h1.fx f, h2.trans f.fr h3, by omega⟩
  rw [lamsAt_at]
  exact w_lams c hj s hm d
theorem IsAll.strs {ih : IH} : ∀ ws : List Str, IsAll ih (ws.map IV.str) (ws.map PyData.str)
  | [] => .nil
  | w :: r => .cons (.str w) (IsAll.strs r)
theorem w_refused (c : Cs) (ok : CsOk c) (s : Src0 p m ih) (hm : m + 30 ≤ 1000000) (k : ∀ ih', Src0 p (m + 30) ih' → Fr p ih ih' → ih.length ≤ ih'.length → Q (.bl true) ih') : wp (m_law_all_refused c [.ref p] ih) Q E := by
  have lp := s.lt
  have k := Hide.mk k
  have c30 : cPow 10 30 = true := by decide
  unfold m_law_all_refused
  rw [wp_defF]
  unfold b_law_all_refused
  obtain ⟨e0, he0⟩ : ∃ e0, e0 = ih.length := ⟨_, rfl⟩
  obtain ⟨ih0, h0⟩ : ∃ ih0, ih0 = ih ++ [MO.clo] := ⟨_, rfl⟩
  have s0 : Src0 p m ih0 := h0 ▸ s.app
  have F0 : Fr p ih ih0 := h0 ▸ Fx.app.fr
  have l0 : ih.length ≤ ih0.length := by rw [h0]; simp
  have l0e : e0 ≤ ih0.length := by rw [he0]; exact l0
  rw [← h0, ← he0]
  have F := Hide.mk F0
  clear h0 F0 he0
  rw [ws_seq]
  generalize hK : ks_seq _ (kd Q) (kdE E) = K
  have hK := Hide.mk hK
  simp only [startI_cons, startI_nil, rep_succ, rep_zero]
  walk_at "run"
  refine hide_wp fun P hP => ?_
  refine w_next c s0 (by decide) ((lit 7 : B 7 99).mono (by decide)) (by omega) fun a ih1 a0 a1 s1 f1 l1 => ?_
  subst hP
  have F := Hide.mk (F.get.trans f1 (by omega))
  replace l1 : ih0.length ≤ ih1.length := by omega
  clear f1 s0
  walk_at "run"
  refine hide_wp fun P hP => ?_
  refine w_next c s1 (by decide) ((lit 7 : B 7 65).mono (by decide)) (by omega) fun b ih2 b0 b1 s2 f2 l2 => ?_
  subst hP
  have F := Hide.mk (F.get.trans f2 (by omega))
  replace l2 : ih1.length ≤ ih2.length := by omega
  clear f2 s1
  walk_at "run"
  refine hide_wp fun P hP => ?_
  refine w_odd_pair c (s2.fx Fx.apps) (by omega) fun v2 ih3 o2 s3 f3 l3 => ?_
  subst hP
  have l3' : ih2.length + 1 ≤ ih3.length := by simpa using l3
  have lp2 : p < ih2.length := s2.lt
  have gt : ih3[ih2.length]? = some (.tup [.int (1 + a), .int b]) := (f3 ih2.length (by simp) (by omega)).trans g_app0
  have F := Hide.mk (F.get.trans (Fx.apps.fr.trans f3 (by simp)) (by omega))
  obtain ⟨t, ht⟩ : ∃ t, t = ih2.length := ⟨_, rfl⟩
  have tp : t ≠ p := by omega
  rw [← ht] at gt
  rw [← ht]
  have lt3 : t < ih3.length := by omega
  clear f3 s2 l3 ht
  walk_at "run"
  rw [← hK.get, kks_next, ws_seq]
  clear hK
  generalize hK : ks_seq _ (kd Q) (kdE E) = K
  have hK := Hide.mk hK
  obtain ⟨ih4, h4⟩ : ∃ ih4, ih4 = ih3 ++ [MO.tup [IV.ref t, v2]] := ⟨_, rfl⟩
  have f4 : Fx ih3 ih4 := h4 ▸ Fx.app
  have s4 := s3.fx f4
  have gt := (f4 t lt3).trans gt
  have o2 := o2.fr (f4.fr (p := p))
  have l4 : ih3.length ≤ ih4.length := by rw [h4]; simp
  have F := Hide.mk (F.get.trans f4.fr (by omega))
  rw [← h4]
  clear h4 f4 s3
  walk_at "run"
  refine hide_wp fun P hP => ?_
  refine w_odd c s4 (by omega) (by decide) fun v3 ih5 o3 w3 s5 f5 l5 => ?_
  subst hP
  have o2 := o2.fr f5
  have gt := (f5 t (by omega) tp).trans gt
  have F := Hide.mk (F.get.trans f5 (by omega))
  clear f5 s4
  walk_at "run"
  refine hide_wp fun P hP => ?_
  refine w_odd c s5 (by omega) (by decide) fun v4 ih6 o4 w4 s6 f6 l6 => ?_
  subst hP
  have o2 := o2.fr f6
  have o3 := o3.fr f6
  have gt := (f6 t (by omega) tp).trans gt
  have F := Hide.mk (F.get.trans f6 (by omega))
  clear f6 s5
  walk_at "run"
  refine hide_wp fun P hP => ?_
  refine w_odd_rows c s6 (by omega) fun v5 ih7 o5 s7 f7 l7 => ?_
  subst hP
  have o2 := o2.fr f7
  have o3 := o3.fr f7
  have o4 := o4.fr f7
  have gt := (f7 t (by omega) tp).trans gt
  have F := Hide.mk (F.get.trans f7 (by omega))
  clear f7 s6
  walk_at "run"
  rw [← hK.get, kks_next, ws_seq]
  clear hK
  generalize hK : ks_seq _ (kd Q) (kdE E) = K
  have hK := Hide.mk hK
  obtain ⟨ih8, h8⟩ : ∃ ih8, ih8 = ih7 ++ [MO.tup [v3, v4, v5]] := ⟨_, rfl⟩
  have f8 : Fx ih7 ih8 := h8 ▸ Fx.app
  have s8 := s7.fx f8
  have gt := (f8 t (by omega)).trans gt
  have o2 := o2.fr (f8.fr (p := p))
  have o3 := o3.fr (f8.fr (p := p))
  have o4 := o4.fr (f8.fr (p := p))
  have o5 := o5.fr (f8.fr (p := p))
  have l8 : ih7.length ≤ ih8.length := by rw [h8]; simp
  have F := Hide.mk (F.get.trans f8.fr (by omega))
  rw [← h8]
  clear h8 f8 s7
  have lp8 : p < ih8.length := s8.lt
  walk_at "run"
  refine hide_wp fun P hP => ?_
  refine w_next c (s8.fx Fx.apps) (by decide) ((lit 7 : B 7 3).mono (by decide)) (by omega) fun d ih9 d0 d1 s9 f9 l9 => ?_
  subst hP
  have G9 : ih9[ih8.length]? = _ := (f9 ih8.length (by simp) (by omega)).trans g_app0
  have F9 : Fr p ih8 ih9 := Fx.apps.fr.trans f9 (by simp)
  replace l9 : ih8.length + 1 ≤ ih9.length := by rw [l9]; simp
  have o2 := o2.fr F9
  have o3 := o3.fr F9
  have o4 := o4.fr F9
  have o5 := o5.fr F9
  have gt := (F9 t (by omega) tp).trans gt
  have F := Hide.mk (F.get.trans F9 (by omega))
  clear f9 s8 F9
  walk_at "run"
  refine k_pick (xs := [v4, IV.int 65, IV.int (10 ^ 30)]) d0 (by simpa using d1) fun v6 hv6 => ?_
  have o6 : OddW p ih9 v6 := by
    simp only [List.mem_cons, List.not_mem_nil, or_false] at hv6
    rcases hv6 with e | e | e
    · subst e
      exact ⟨o4, fun z hz h => by rw [hz] at w4; have := of_decide_eq_false w4; omega⟩
    · subst e
      exact ⟨trivial, fun z hz h => by cases hz; omega⟩
    · subst e
      exact ⟨trivial, fun z hz h => by cases hz; omega⟩
  clear hv6 G9
  walk_at "run"
  refine hide_wp fun P hP => ?_
  refine w_next c (s9.fx Fx.apps) (by decide) ((lit 7 : B 7 3).mono (by decide)) (by omega) fun d2 ih10 d20 d21 s10 f10 l10 => ?_
  subst hP
  have G10 : ih10[ih9.length]? = _ := (f10 ih9.length (by simp) (by have := s9.lt; omega)).trans g_app0
  have F10 : Fr p ih9 ih10 := Fx.apps.fr.trans f10 (by simp)
  replace l10 : ih9.length + 1 ≤ ih10.length := by rw [l10]; simp
  have o2 := o2.fr F10
  have o3 := o3.fr F10
  have o4 := o4.fr F10
  have o5 := o5.fr F10
  have o6 := o6.fr F10
  have gt := (F10 t (by omega) tp).trans gt
  have F := Hide.mk (F.get.trans F10 (by omega))
  clear f10 s9 F10
  walk_at "run"
  refine k_pick (xs := [v3, IV.int 65, IV.int (10 ^ 30)]) d20 (by simpa using d21) fun v7 hv7 => ?_
  have o7 : KV p ih10 v7 ∧ goodS v7 = false := by
    simp only [List.mem_cons, List.not_mem_nil, or_false] at hv7
    rcases hv7 with e | e | e
    · subst e
      exact ⟨o3, by unfold goodS; rw [w3]; rfl⟩
    · subst e
      exact ⟨trivial, by decide⟩
    · subst e
      exact ⟨trivial, by decide⟩
  obtain ⟨o7, w7⟩ := o7
  clear hv7 G10
  walk_at "run"
  rw [← hK.get, kks_next, ws_seq]
  clear hK
  generalize hK : ks_seq _ (kd Q) (kdE E) = K
  have hK := Hide.mk hK
  obtain ⟨ih11, h11⟩ : ∃ x, x = ih10 ++ [MO.tup [v6, v7]] := ⟨_, rfl⟩
  have f11 : Fx ih10 ih11 := h11 ▸ Fx.app
  have s11 := s10.fx f11
  have gt := (f11 t (by omega)).trans gt
  have o2 := o2.fr (f11.fr (p := p))
  have o3 := o3.fr (f11.fr (p := p))
  have o4 := o4.fr (f11.fr (p := p))
  have o5 := o5.fr (f11.fr (p := p))
  have o6 := o6.fr (f11.fr (p := p))
  have o7 := o7.fr (f11.fr (p := p))
  have l11 : ih10.length ≤ ih11.length := by rw [h11]; simp
  have F := Hide.mk (F.get.trans f11.fr (by omega))
  rw [← h11]
  clear h11 f11 s10
  have lp11 : p < ih11.length := s11.lt
  walk_at "run"
  refine hide_wp fun P hP => ?_
  refine w_next c (s11.fx Fx.apps) (by decide) ((lit 7 : B 7 4).mono (by decide)) (by omega) fun d3 ih12 d30 d31 s12 f12 l12 => ?_
  subst hP
  have G12 : ih12[ih11.length + 1]? = _ := (f12 (ih11.length + 1) (by simp) (by omega)).trans g_appn
  have F12 : Fr p ih11 ih12 := Fx.apps.fr.trans f12 (by simp)
  replace l12 : ih11.length + 2 ≤ ih12.length := by rw [l12]; simp
  have o2 := o2.fr F12
  have o3 := o3.fr F12
  have o4 := o4.fr F12
  have o5 := o5.fr F12
  have o6 := o6.fr F12
  have o7 := o7.fr F12
  have gt := (F12 t (by omega) tp).trans gt
  have F := Hide.mk (F.get.trans F12 (by omega))
  clear f12 s11 F12
  walk_at "run"
  refine k_pick (xs := [v3, IV.bl true, IV.non, IV.str "1", IV.ref ih11.length]) (by omega) (by simp; omega) fun v8 hv8 => ?_
  clear hv8 G12
  walk_at "run"
  have D : Drawn p ih12 t (1 + a) b v2 v3 v4 v5 v6 v7 v8 := ⟨tp, gt, by omega, by omega, b0, by omega, o2, o3, w3, o4, w4, o5, o6, o7, w7⟩
  have L12 : ih.length ≤ ih12.length := by omega
  have E12 : e0 ≤ ih12.length := by omega
  clear o2 o3 w3 o4 w4 o5 o6 o7 w7 gt l0 l1 l2 l3' l4 l5 l6 l7 l8 l9 l10 l11 l12 lp2 lt3 lp8 lp11 l0e a0 a1 b0 b1 d0 d1 d20 d21 d30 d31
  rw [← hK.get, kks_next]
  clear hK
  walk_at "run"
  unfold lc_law_all_refused_1
  walk_at "run"
  refine ⟨by omega, by omega, by omega, by omega, by omega, by omega, ?_⟩
  obtain ⟨ihB, hB⟩ : ∃ x, x = ih12 ++ [MO.fn e0 0, MO.lst [IV.ref ih12.length, IV.ref (ih12.length + 2), IV.ref (ih12.length + 3), IV.ref (ih12.length + 4), IV.ref (ih12.length + 5), IV.ref (ih12.length + 6), IV.ref (ih12.length + 7)], MO.fn e0 1, MO.fn e0 2, MO.fn e0 3, MO.fn e0 4, MO.fn e0 5, MO.fn e0 6] := ⟨_, rfl⟩
  have GB : ∀ j, j < 8 → ihB[ih12.length + j]? = [MO.fn e0 0, MO.lst [IV.ref ih12.length, IV.ref (ih12.length + 2), IV.ref (ih12.length + 3), IV.ref (ih12.length + 4), IV.ref (ih12.length + 5), IV.ref (ih12.length + 6), IV.ref (ih12.length + 7)], MO.fn e0 1, MO.fn e0 2, MO.fn e0 3, MO.fn e0 4, MO.fn e0 5, MO.fn e0 6][j]? := fun j _ => by rw [hB]; exact g_appn
  have fB : Fx ih12 ihB := hB ▸ Fx.apps
  have lB : ihB.length = ih12.length + 8 := by rw [hB]; simp
  have lp12 : p < ih12.length := s12.lt
  have sB := s12.fx fB
  have DB := D.fr fB.fr
  have F := Hide.mk (F.get.trans fB.fr L12)
  rw [← hB]
  clear hB D s12 fB
  refine lc_words (ns := [ih12.length, ih12.length + 2, ih12.length + 3, ih12.length + 4, ih12.length + 5, ih12.length + 6, ih12.length + 7]) (ws := rates7) sB (GB 1 (by decide)) (by omega) rfl (by simp) (fun i n x hn hx ih' s' fr lx => ?_) fun ihC sC fC lC gC => ?_
  · have A : ∃ j, j < 7 ∧ ihB[n]? = some (.fn e0 j) ∧ x = "rate" ∧ n ≠ p := by
      match i, hn, hx with
      | 0, hn, hx => cases hn; cases hx; exact ⟨0, by decide, GB 0 (by decide), rfl, by omega⟩
      | 1, hn, hx => cases hn; cases hx; exact ⟨1, by decide, GB 2 (by decide), rfl, by omega⟩
      | 2, hn, hx => cases hn; cases hx; exact ⟨2, by decide, GB 3 (by decide), rfl, by omega⟩
      | 3, hn, hx => cases hn; cases hx; exact ⟨3, by decide, GB 4 (by decide), rfl, by omega⟩
      | 4, hn, hx => cases hn; cases hx; exact ⟨4, by decide, GB 5 (by decide), rfl, by omega⟩
      | 5, hn, hx => cases hn; cases hx; exact ⟨5, by decide, GB 6 (by decide), rfl, by omega⟩
      | 6, hn, hx => cases hn; cases hx; exact ⟨6, by decide, GB 7 (by decide), rfl, by omega⟩
      | i + 7, hn, hx => cases hn
    obtain ⟨j, hj, g, rfl, np⟩ := A
    have g := (fr n (lt_of_get g) np).trans g
    have hi : i < 7 := by simpa using (List.getElem?_eq_some_iff.mp hn).1
    have W := w_elt c ok (o := some (.ref (ih12.length + 1))) (j := j) (x := "rate") (by omega) (.inr (.inr (.inl ⟨if_pos hj, rfl⟩))) g s' (by omega) (DB.fr fr)
    exact W
  have DC := DB.fr fC
  have F := Hide.mk (F.get.trans fC (by omega))
  clear GB DB sB fC
  walk_at "run"
  refine wp_mulL (xs := [IV.str "rate"]) (by walk_at "run") (by decide) (by decide) (by decide) ?_
  obtain ⟨ihE, hE⟩ : ∃ x, x = ihC ++ [MO.lst [IV.str "rate"]] ++ [MO.lst (List.replicate (Int.toNat 7) [IV.str "rate"]).flatten] := ⟨_, rfl⟩
  have fE : Fx ihC ihE := by rw [hE, List.append_assoc]; exact Fx.apps
  have lE : ihE.length = ihC.length + 2 := by rw [hE]; simp
  have gE : ihE[ihC.length + 1]? = some (.lst (rates7.map IV.str)) := by rw [hE, List.append_assoc]; exact g_appn
  have gC := (fE _ (lt_of_get gC)).trans gC
  have sE := sC.fx fE
  have DE := DC.fr fE.fr
  have F := Hide.mk (F.get.trans fE.fr (by omega))
  rw [← hE, show (ihC ++ [MO.lst [IV.str "rate"]]).length = ihC.length + 1 by simp]
  rw [lB] at gC
  clear hE fE DC sC
  rw [kk_un]
  refine wp_ne (.lst gC rfl (IsAll.strs _)) (.lst gE rfl (IsAll.strs _)) (by decide +kernel) (by decide +kernel) ?_
  have eq : (!PyData.eqv (.list (rates7.map PyData.str)) (.list (rates7.map PyData.str))) = false := by decide +kernel
  rw [eq]
  have lpE : p < ihE.length := sE.lt
  replace lE : ihC.length + 2 ≤ ihE.length := by omega
  clear gC gE eq
  walk_at "run"
  unfold lc_law_all_refused_2
  walk_at "run"
  refine ⟨by omega, by omega, by omega, by omega, ?_⟩
  obtain ⟨ihG, hG⟩ : ∃ x, x = ihE ++ [MO.fn e0 7, MO.lst [IV.ref ihE.length, IV.ref (ihE.length + 2), IV.ref (ihE.length + 3), IV.ref (ihE.length + 4)], MO.fn e0 8, MO.fn e0 9, MO.fn e0 10] := ⟨_, rfl⟩
  have GB : ∀ j, j < 5 → ihG[ihE.length + j]? = [MO.fn e0 7, MO.lst [IV.ref ihE.length, IV.ref (ihE.length + 2), IV.ref (ihE.length + 3), IV.ref (ihE.length + 4)], MO.fn e0 8, MO.fn e0 9, MO.fn e0 10][j]? := fun j _ => by rw [hG]; exact g_appn
  have fG : Fx ihE ihG := hG ▸ Fx.apps
  have lG : ihG.length = ihE.length + 5 := by rw [hG]; simp
  have sG := sE.fx fG
  have DG := DE.fr fG.fr
  have F := Hide.mk (F.get.trans fG.fr (by omega))
  rw [← hG]
  clear hG DE sE fG
  refine lc_words (ns := [ihE.length, ihE.length + 2, ihE.length + 3, ihE.length + 4]) (ws := words4) sG (GB 1 (by decide)) (by omega) rfl (by simp) (fun i n x hn hx ih' s' fr lx => ?_) fun ihH sH fH lH gH => ?_
  · have A : ∃ j, j < 11 ∧ ihG[n]? = some (.fn e0 j) ∧ Wd c (clsJ c j) x ∧ n ≠ p := by
      match i, hn, hx with
      | 0, hn, hx => cases hn; cases hx; exact ⟨7, by decide, GB 0 (by decide), .inr (.inl ⟨rfl, rfl⟩), by omega⟩
      | 1, hn, hx => cases hn; cases hx; exact ⟨8, by decide, GB 2 (by decide), .inr (.inr (.inr ⟨rfl, rfl⟩)), by omega⟩
      | 2, hn, hx => cases hn; cases hx; exact ⟨9, by decide, GB 3 (by decide), .inl ⟨rfl, rfl⟩, by omega⟩
      | 3, hn, hx => cases hn; cases hx; exact ⟨10, by decide, GB 4 (by decide), .inr (.inr (.inr ⟨rfl, rfl⟩)), by omega⟩
      | i + 4, hn, hx => cases hn
    obtain ⟨j, hj, g, hW, np⟩ := A
    have g := (fr n (lt_of_get g) np).trans g
    have hi : i < 4 := by simpa using (List.getElem?_eq_some_iff.mp hn).1
    have W := w_elt c ok (o := some (.ref (ihE.length + 1))) (j := j) (x := x) hj hW g s' (by simp only [List.length_cons, List.length_nil]; omega) (DG.fr fr)
    exact W
  have F := Hide.mk (F.get.trans fH (by omega))
  clear GB DG sG fH
  have sH := Hide.mk sH
  walk_at "run"
  have gI : (ihH ++ [MO.lst [IV.str "cycle", IV.str "reading", IV.str "width", IV.str "reading"]])[ihG.length]? = some (.lst (words4.map IV.str)) := by rw [g_appo lH]; exact gH
  have gJ : (ihH ++ [MO.lst [IV.str "cycle", IV.str "reading", IV.str "width", IV.str "reading"]])[ihH.length]? = some (.lst (words4.map IV.str)) := g_app0
  rw [lG] at gI
  refine wp_eq (.lst gI rfl (IsAll.strs _)) (.lst gJ rfl (IsAll.strs _)) (by decide +kernel) (by decide +kernel) ?_
  have eq : PyData.eqv (.list (words4.map PyData.str)) (.list (words4.map PyData.str)) = true := by decide +kernel
  rw [eq]
  have fin := k.get _ ((sH.get.fx (Fx.app (o := MO.lst [IV.str "cycle", IV.str "reading", IV.str "width", IV.str "reading"]))).mono (by simp only [List.length_cons, List.length_nil]; omega)) (F.get.trans Fx.app.fr (by omega)) (by simp; omega)
  exact fin
end
end L3
/-! K08e: by name and by position. (L15) (L17) -/
namespace L3
open PySem PySem.Spec PyProof.Rows L2
local macro_rules | `(tactic| walk_at "get") => `(tactic| simp (disch := first | assumption | omega | (simp only [List.length_append, List.length_set, List.length_cons, List.length_nil, List.length_map] <;> omega) | fail) only [g_new, g_nw, g_old, g_set, g_sne, List.length_append, List.length_set, List.length_cons, List.length_nil, List.length_map, List.map_map, Function.comp_def, xs_lst, xs_tup, isL_lst, isL_tup, ↓reduceIte, *])
local macro_rules | `(tactic| walk_at "fr") => `(tactic| first | (intro _ _ _; simp (disch := first | assumption | omega | (simp only [List.length_append, List.length_set, List.length_cons, List.length_nil, List.length_map] <;> omega) | fail) only [g_new, g_nw, g_old, g_set, g_sne, List.length_append, List.length_set, List.length_cons, List.length_nil, List.length_map, List.map_map, Function.comp_def, xs_lst, xs_tup, isL_lst, isL_tup, ↓reduceIte, *]) | (intro _ _; simp (disch := first | assumption | omega | (simp only [List.length_append, List.length_set, List.length_cons, List.length_nil, List.length_map] <;> omega) | fail) only [g_new, g_nw, g_old, g_set, g_sne, List.length_append, List.length_set, List.length_cons, List.length_nil, List.length_map, List.map_map, Function.comp_def, xs_lst, xs_tup, isL_lst, isL_tup, ↓reduceIte, *]))
local macro_rules | `(tactic| walk_at "run") => `(tactic| simp -implicitDefEqProofs (disch := first | assumption | omega | (simp only [List.length_append, List.length_set, List.length_cons, List.length_nil, List.length_map] <;> omega) | fail) only [wp_ok, wp_exc, wp_stuck, ws_ok, ws_exc, ws_stuck, wp_op, kk_op, kk_un, wp_un, wp_cons, kk_cons, kk_cons2, wp_nil, wp_c, wp_app, wp_if, kk_if1, kk_if0, wp_and, kk_and1, kk_and0, wp_or, kk_or1, kk_or0, wp_not, kk_not, wp_tb, kk_tb, wp_andV, kk_andV1, kk_andV0, wp_orV, kk_orV1, kk_orV0, wp_notV, kk_notV, wp_noneS, wp_some, kk_some, wp_sl, kk_sl, kk_sl2, kk_sl3, wp_mL, kk_mL, kk_mL2, wp_mL0, kk_mL0, wp_chain, kk_ch, kk_ch2, kk_ch31, kk_ch30, ws_set, kks_nm, kks_g, kks_tup, kks_lst, ws_expr, kks_expr, ws_ret, kks_ret, ws_retN, ws_pass, ws_brk, ws_cont, ws_raise, ws_if, kks_if1, kks_if0, ws_seq, kks_next, kks_retS, kks_brk, kks_cont, kk_augE, ws_aug, kks_aug, kks_aug2, ws_par, kks_par, ws_setL, kks_sl, kks_sl2, kks_sl3, wp_def, kkd_ret, kkd_next, kkdE, kkE, ws_for, wp_lc, wp_r1, kk_r1, wp_r2, kk_r2, wp_il, wp_it, wp_ie, wp_iz, kk_il, kk_il2, kk_it, kk_it2, kk_ie, kk_ie2, kk_iz, kk_iz2, lAt_k, k_lAtL, k_lAtO, k_lAtT, wp_int, wp_add, wp_addI, wp_sub, wp_neg, wp_lt, wp_le, wp_gt, wp_ge, wp_max2, wp_min2, wp_abs, wp_mulI, wp_mul, wp_fdiv, wp_mod, wp_shl, wp_shr, wp_pow, wp_isN, wp_notN, wp_eqI, wp_neI, wp_ix, kk_ix, kk_ix2, wp_len, kk_lenL, kk_lenT, kk_lenO, kk_lenP, wp_appd, kk_app1, isL_k, kk_isL, startI_cons, startI_nil, rep_succ, rep_zero, List.getElem?_cons_zero, List.getElem?_cons_succ, List.set_cons_zero, List.set_cons_succ, f_call, m_var, List.append_nil, List.nil_append, List.cons_append, List.length_cons, List.length_nil, if_true, if_false, g_tup, g_lst, g_cons, g_nil, g_nm, Option.bind_some, kks_g, atI_0, atI_1, atI_2, atI_3, atI_4, atI_5, atI_6, atI_7, atI_8, atI_9, atI_10, atI_11, atI_12, atI_last, cutI_1, ixN_30, ixN_31, ixN_32, Int.toNat_zero, Int.reduceToNat, Int.reduceNeg, xs_lst, xs_tup, xs_ro, xs_rot, isL_lst, isL_tup, isL_ro, isL_rot, isT_tup, isT_rot, Bool.false_eq_true, Bool.true_eq_false, Bool.not_true, Bool.not_false, decide_true, decide_false, Int.reduceLT, Int.reduceLE, Nat.reduceLT, Nat.reduceLeDiff, Nat.reduceAdd, Nat.reduceEqDiff, Bool.not_eq_true, true_and, and_true, and_self, eq_self, g_new, g_nw, g_old, g_set, g_sne, List.length_set, List.length_append, wp_r3, kk_r3, Int.cast_ofNat_Int, Int.reduceEq, Int.natCast_zero, Int.natCast_one, ws_whileA, wp_isiII, wp_isiIB, wp_isiI_list, wp_isiI_tuple, wp_isiI_str, wp_isiR, tyO_l, tyO_t, kk_isi, kk_isi2, kit_ll, kit_tt, kit_lt, kit_tl, wp_isiN, wp_isiBl, wp_isiS, tyO_d, kit2_NoneType_int, kit2_NoneType_bool, kit2_NoneType_list, kit2_NoneType_tuple, kit2_NoneType_str, kit2_bool_int, kit2_bool_bool, kit2_bool_list, kit2_bool_tuple, kit2_bool_str, kit2_str_int, kit2_str_bool, kit2_str_list, kit2_str_tuple, kit2_str_str, kit2_dict_int, kit2_dict_bool, kit2_dict_list, kit2_dict_tuple, kit2_dict_str, kit2_list_int, kit2_list_bool, kit2_list_str, kit2_tuple_int, kit2_tuple_bool, kit2_tuple_str, kit2_int_list, kit2_int_tuple, kit2_int_str, kf_next, kf_cont, kf_brk, kf_ret, wipeI, wp_lstE, wp_tupE, wp_dctE, wp_lamE, wp_catE, kk_catL, g_appn, g_app0, g_appo, g_setn, g_set0, List.append_assoc, Nat.zero_add, ws_try, wp_isEg, wp_isEt, kk_isE, wp_neS, wp_int2, ↓reduceIte, *])
theorem PR.src {a b : IH} {p m : Nat} {xs : List IV} {rs : List (Int × Int)} (h : PR a xs rs) (s : Src0 p m a) (f : Fr p a b) : PR b xs rs := by
  obtain ⟨_, _, _, g, _⟩ := s
  exact h.fr f g
theorem PR.set {a : IH} {q : Nat} {l : List IV} {o : MO} {xs : List IV} {rs : List (Int × Int)} (h : PR a xs rs) (g : a[q]? = some (.lst l)) : PR (a.set q o) xs rs := h.mono fun t i j e => by
  by_cases ht : q = t
  · subst ht
    rw [g] at e
    cases e
  · rw [g_sne ht]
    exact e
theorem St.uniq {C : Int → Prop} {e : Prop} {l l' : Int} {g g' : Option Int} (h : St C e l g) (k : St C e l' g') (ne : ∃ m, 1 ≤ m ∧ C m) : l = l' ∧ g = g' := by
  obtain ⟨m, m1, hm⟩ := ne
  have i1 := (h.inn m m1).mpr hm
  have i2 := (k.inn m m1).mpr hm
  have a1 : In l g l := ⟨Int.le_refl _, fun G hG => Int.le_trans i1.1 (i1.2 G hG)⟩
  have a2 : In l' g' l' := ⟨Int.le_refl _, fun G hG => Int.le_trans i2.1 (i2.2 G hG)⟩
  have b1 := ((k.inn l h.one).mpr ((h.inn l h.one).mp a1)).1
  have b2 := ((h.inn l' k.one).mpr ((k.inn l' k.one).mp a2)).1
  refine ⟨by omega, ?_⟩
  cases g with
  | none => exact (k.non.mpr (h.non.mp rfl)).symm
  | some G =>
    cases g' with
    | none => exact h.non.mpr (k.non.mp rfl)
    | some G' =>
      have c1 := i1.2 G rfl
      have c2 := i2.2 G' rfl
      have d1 : In l (some G) G := ⟨Int.le_trans i1.1 c1, fun X hX => by cases hX; exact Int.le_refl _⟩
      have d2 : In l' (some G') G' := ⟨Int.le_trans i2.1 c2, fun X hX => by cases hX; exact Int.le_refl _⟩
      have e1 := ((k.inn G (by omega)).mpr ((h.inn G (by omega)).mp d1)).2 G' rfl
      have e2 := ((h.inn G' (by omega)).mpr ((k.inn G' (by omega)).mp d2)).2 G rfl
      rw [show G = G' by omega]
section
variable {p m t : Nat} {ih ih' : IH} {Q : PQ IV} {E : EQ}
/-- pairs drawn -/
theorem lc_draw2 {env : Env} {vs : List Nat} {i j : Nat} {me : Env → IH → Res IV} (s : Src0 p m ih) (hz : j < 1000)
    (he : ∀ k, k < j → ∀ ih', Src0 p (m + 2 * k) ih' → Fr p ih ih' → ih.length < ih'.length → wp (me ((wipeI env vs).set i (some (.int (k : Int)))) ih') (fun v ih'' => (∃ (t : Nat) (a b : Int), v = .ref t ∧ ih''[t]? = some (.tup [.int a, .int b]) ∧ ih'.length ≤ t ∧ 0 ≤ a ∧ a < 9 ∧ 0 ≤ b ∧ b < 9) ∧ Src0 p (m + 2 * (k + 1)) ih'' ∧ Fr p ih' ih'' ∧ ih'.length ≤ ih''.length) E0)
    (q : ∀ ih' (xs : List IV) (rs : List (Int × Int)), rs.length = j → PR ih' xs rs → (∀ r ∈ rs, 0 ≤ r.1 ∧ r.1 < 9 ∧ 0 ≤ r.2 ∧ r.2 < 9) → Src0 p (m + 2 * j) ih' → Fr p ih ih' → ih.length < ih'.length → ih'[ih.length]? = some (.lst xs) → Q (.ref ih.length) ih') : k_lc vs (g_nm i) n_yes me env Q E (.rng 0 1 j) ih := by
  have pl := s.lt
  refine lc_gen j (fun k acc ih' => (∃ rs : List (Int × Int), rs.length = k ∧ PR ih' acc rs ∧ ∀ r ∈ rs, 0 ≤ r.1 ∧ r.1 < 9 ∧ 0 ≤ r.2 ∧ r.2 < 9) ∧ Src0 p (m + 2 * k) ih' ∧ Fr p ih ih' ∧ ih.length < ih'.length) (Nat.le_refl _) ⟨⟨[], rfl, trivial, fun _ h => nomatch h⟩, s.fx Fx.app, Fx.app.fr, by simp⟩ (fun k acc ih' hk ⟨⟨rs, hl, pr, hc⟩, s', fr, lx⟩ hd => ?_) (fun acc ih' _ _ => stop_rng) fun acc ih' ⟨⟨rs, hl, pr, hc⟩, s', fr, lx⟩ hd => q ih' acc rs hl pr hc s' fr lx hd
  have e0 : (0 : Int) + (k : Int) * 1 = (k : Int) := by omega
  refine ⟨.int (k : Int), _, _, by rw [turn_rng hk, e0], rfl, ?_⟩
  rw [show n_yes _ _ = Res.ok true _ from rfl, wp_ok]
  refine ⟨(fun h => nomatch h), fun _ => wp.imp (he k hk ih' s' fr lx) (fun v ih2 hvi => ?_) fun _ _ h => h⟩
  obtain ⟨⟨t, a, b, rfl, gt, lt, a0, a1, b0, b1⟩, s2, f2, l2⟩ := hvi
  have hd2 : ih2[ih.length]? = some (.lst acc) := by rw [f2 _ lx (by omega)]; exact hd
  have pr2 : PR ih2 acc rs := pr.src s' f2
  refine ⟨hd2, by rw [pr.len]; omega, ⟨rs ++ [(a, b)], by simp [hl], (pr2.set hd2).app (by rw [g_sne (by omega)]; exact gt), fun r h => ?_⟩, s2.set (by omega), (fr.trans f2 (by omega)).set (Nat.le_refl _), by rw [List.length_set]; omega⟩
  rcases List.mem_append.mp h with h | h
  · exact hc r h
  · rw [List.mem_singleton] at h
    rw [h]
    exact ⟨a0, a1, b0, b1⟩
/-- two of each, alike -/
theorem lc_alike {env : Env} {vs : List Nat} {i j q : Nat} {me : Env → IH → Res IV} {xs : List IV} (hq : ih[q]? = some (.lst xs)) (hz : xs.length < 1000)
    (hx : ∀ x ∈ xs, ∃ (t : Nat) (v w : IV) (d : PyData), x = .ref t ∧ ih[t]? = some (.tup [v, w]) ∧ Is ih v d ∧ Is ih w d ∧ SeqAt.shaped d = true)
    (he : ∀ v w ih', me (((wipeI env vs).set i (some v)).set j (some w)) ih' = f_eq v w ih')
    (k : Q (.ref ih.length) (ih ++ [.lst (xs.map fun _ => .bl true)])) : k_lc vs (g_tup 2 (g_cons (g_nm i) (g_cons (g_nm j) g_nil))) n_yes me env Q E (.lst q) ih := by
  have ql := lt_of_get hq
  refine lc_gen xs.length (fun k acc ih' => acc = (xs.take k).map (fun _ => .bl true) ∧ ih' = ih ++ [.lst acc]) (by unfold Src.size; dsimp only; rw [hq]; exact Nat.le_refl _) ⟨rfl, rfl⟩ (fun k acc ih' hk ⟨ha, hi⟩ hd => ?_) (fun acc ih' ⟨ha, hi⟩ _ => ?_) fun acc ih' ⟨ha, hi⟩ hd => ?_
  · have fx : Fx ih ih' := hi ▸ Fx.app
    obtain ⟨t, v, w, d, hr, ht, h1, h2, hs⟩ := hx _ (List.getElem_mem hk)
    refine ⟨.ref t, ih', _, turn_lst ((fx q ql).trans hq) rfl (by show xs[k]? = _; rw [List.getElem?_eq_getElem hk, hr]), g_pairR ((fx t (lt_of_get ht)).trans ht), by
      rw [show n_yes _ _ = Res.ok true _ from rfl, wp_ok]
      exact ⟨(fun h => nomatch h), fun _ => by
        rw [he]
        refine wp_eq (h1.fx fx) (h2.fx fx) hs hs ?_
        have e : PyData.eqv d d = true := eqv_same hs
        rw [e]
        refine ⟨hd, by rw [ha, List.length_map, List.length_take]; omega, ?_, ?_⟩
        · rw [ha, List.take_add_one, List.getElem?_eq_getElem hk, List.map_append]
          rfl
        · rw [hi, set_append_last]⟩⟩
  · have fx : Fx ih ih' := hi ▸ Fx.app
    exact stop_lst ((fx q ql).trans hq) rfl
  · rw [ha, List.take_length] at hi
    rw [hi]
    exact k
/-- flat data: an int, None, a tuple of flat items -/
def Fla (ih : IH) (v : IV) (d : PyData) : Prop := (∃ i, v = .int i ∧ d = .int i) ∨ (v = .non ∧ d = .none) ∨ ∃ t xs ds, v = .ref t ∧ ih[t]? = some (.tup xs) ∧ IsAll [] xs ds ∧ d = .tuple ds
theorem ext_nil {ih : IH} : Ext [] ih := fun n o h => by simp at h
theorem IsAll.up {ih : IH} : ∀ {xs : List IV} {ds : List PyData}, IsAll [] xs ds → IsAll ih xs ds
  | _, _, .nil => .nil
  | _, _, .cons a b => .cons (Is.ext ext_nil _ _ a) (IsAll.up b)
theorem Fla.is {v : IV} {d : PyData} (h : Fla ih v d) : Is ih v d := by
  rcases h with ⟨i, rfl, rfl⟩ | ⟨rfl, rfl⟩ | ⟨t, xs, ds, rfl, g, a, rfl⟩
  · exact .int i
  · exact .non
  · exact .tup g rfl a.up
def Tps (ih ih' : IH) : Prop := ∀ (t : Nat) (xs : List IV), ih[t]? = some (.tup xs) → ih'[t]? = some (.tup xs)
theorem Fla.tp {v : IV} {d : PyData} (h : Fla ih v d) (f : Tps ih ih') : Fla ih' v d := by
  rcases h with h | h | ⟨t, xs, ds, rfl, g, a, rfl⟩
  · exact .inl h
  · exact .inr (.inl h)
  · exact .inr (.inr ⟨t, xs, ds, rfl, f t xs g, a, rfl⟩)
theorem Fx.tp (f : Fx ih ih') : Tps ih ih' := fun t xs g => (f t (lt_of_get g)).trans g
def Two (ih : IH) (y : IV) : Prop := ∃ (t : Nat) (v w : IV) (d : PyData), y = .ref t ∧ ih[t]? = some (.tup [v, w]) ∧ Fla ih v d ∧ Fla ih w d ∧ SeqAt.shaped d = true
theorem Two.tp {y : IV} (h : Two ih y) (f : Tps ih ih') : Two ih' y := by
  obtain ⟨t, v, w, d, e, g, a, b, s⟩ := h
  exact ⟨t, v, w, d, e, f t _ g, a.tp f, b.tp f, s⟩
def Al (z : Nat) (ih : IH) (n : Nat) : Prop := ∃ ys, ih[z]? = some (.lst ys) ∧ ys.length = n ∧ ∀ y ∈ ys, Two ih y
theorem Al.fx {z n : Nat} (h : Al z ih n) (f : Fx ih ih') : Al z ih' n := by
  obtain ⟨ys, g, l, a⟩ := h
  exact ⟨ys, (f z (lt_of_get g)).trans g, l, fun y hy => (a y hy).tp f.tp⟩
theorem Al.push {z n t : Nat} {ys : List IV} {v w : IV} {d : PyData} (g : ih[z]? = some (.lst ys)) (l : ys.length = n) (a : ∀ y ∈ ys, Two ih y) (gt : ih[t]? = some (.tup [v, w])) (hv : Fla ih v d) (hw : Fla ih w d) (s : SeqAt.shaped d = true) : Al z (ih.set z (.lst (ys ++ [.ref t]))) (n + 1) := by
  have f : Tps ih (ih.set z (.lst (ys ++ [.ref t]))) := fun j xs h => by
    rw [g_sne (fun e => by subst e; rw [g] at h; cases h)]
    exact h
  refine ⟨_, g_set (lt_of_get g), by simp [l], fun y hy => ?_⟩
  rcases List.mem_append.mp hy with h | h
  · exact (a y h).tp f
  · rw [List.mem_singleton] at h
    exact ⟨t, v, w, d, h, f t _ gt, hv.tp f, hw.tp f, s⟩
/-- what best_rate tells, as data -/
def BD (f u most : Int) (d : PyData) : Prop := (d = .none ∧ ∀ s, s < 33 → ¬ Tt f u most s) ∨ ∃ s : Nat, s < 33 ∧ Tt f u most s ∧ (∀ r, s < r → r < 33 → ¬ Tt f u most r) ∧ d = .tuple [.int (u * 2 ^ s / f), .int (s : Int)]
theorem BD.one {f u most : Int} {d e : PyData} (h : BD f u most d) (k : BD f u most e) : d = e := by
  rcases h with ⟨rfl, h⟩ | ⟨s, hs, ht, hm, rfl⟩ <;> rcases k with ⟨rfl, k⟩ | ⟨r, kr, kt, km, rfl⟩
  · rfl
  · exact absurd kt (h r kr)
  · exact absurd ht (k s hs)
  · rcases Nat.lt_trichotomy s r with l | l | l
    · exact absurd kt (hm r l kr)
    · rw [l]
    · exact absurd ht (km s l hs)
theorem BD.sh {f u most : Int} {d : PyData} (h : BD f u most d) : SeqAt.shaped d = true := by
  rcases h with ⟨rfl, h⟩ | ⟨s, hs, ht, hm, rfl⟩
  · exact shaped_none
  · exact shaped_t2 _ _
theorem w_bestD (c : Cs) {f u most : Int} (f0 : 1 ≤ f) (u0 : 1 ≤ u) (m0 : 1 ≤ most) (fB : B 200 f) (uB : B 200 u) (mB : B 200 most)
    (k : ∀ v d ih', BD f u most d → Fla ih' v d → Fx ih ih' → ih.length ≤ ih'.length → Q v ih') : wp (m_best_rate c [.int f, .int u, .int most] ih) Q E :=
  w_best c f0 u0 m0 fB uB mB (fun h => k .non .none ih (.inl ⟨rfl, h⟩) (.inr (.inl ⟨rfl, rfl⟩)) Fx.refl (Nat.le_refl _)) fun s t ih' hs ht hm g l1 l2 fx => k (.ref t) _ ih' (.inr ⟨s, hs, ht, hm, rfl⟩) (.inr (.inr ⟨t, _, _, rfl, g, .cons (.int _) (.cons (.int _) .nil), rfl⟩)) fx (by omega)
/-- what rates_seen tells, as data -/
def RD (s : Int) (rs : List (Int × Int)) (d : PyData) : Prop := (∃ n : Nat, 1 ≤ n ∧ n ≤ rs.length ∧ (∀ m, 1 ≤ m → ¬ Fit s (rs.take n) m) ∧ (∀ i, 1 ≤ i → i < n → Some1 s rs i) ∧ d = .tuple [.str "none", .int (n : Int)]) ∨
  ∃ l g, St (Fit s rs) (AllEq rs) l g ∧ (∀ i, 1 ≤ i → i ≤ rs.length → Some1 s rs i) ∧ d = .tuple [.str "rates", .int l, oD g]
theorem RD.one {s : Int} {rs : List (Int × Int)} {d e : PyData} (hn : 0 < rs.length) (h : RD s rs d) (k : RD s rs e) : d = e := by
  rcases h with ⟨n, n1, n2, n3, n4, rfl⟩ | ⟨l, g, h1, h2, rfl⟩ <;> rcases k with ⟨n', n1', n2', n3', n4', rfl⟩ | ⟨l', g', h1', h2', rfl⟩
  · rcases Nat.lt_trichotomy n n' with a | a | a
    · obtain ⟨m, m1, hm⟩ := n4' n n1 a
      exact absurd hm (n3 m m1)
    · rw [a]
    · obtain ⟨m, m1, hm⟩ := n4 n' n1' a
      exact absurd hm (n3' m m1)
  · obtain ⟨m, m1, hm⟩ := h2' n n1 n2
    exact absurd hm (n3 m m1)
  · obtain ⟨m, m1, hm⟩ := h2 n' n1' n2'
    exact absurd hm (n3' m m1)
  · obtain ⟨m, m1, hm⟩ := h2 rs.length hn (Nat.le_refl _)
    rw [List.take_length] at hm
    obtain ⟨e1, e2⟩ := St.uniq h1 h1' ⟨m, m1, hm⟩
    rw [e1, e2]
theorem RD.sh {s : Int} {rs : List (Int × Int)} {d : PyData} (h : RD s rs d) : SeqAt.shaped d = true := by
  rcases h with ⟨n, n1, n2, n3, n4, rfl⟩ | ⟨l, g, h1, h2, rfl⟩
  · have := show PyData.strOk "none" = true by decide +kernel
    simp [SeqAt.shaped, PyData.canLay0, PyData.canLayAll0, PyData.depth, PyData.depthAll, this]
  · have := show PyData.strOk "rates" = true by decide +kernel
    have h := shaped_oD g
    cases g with
    | none => simp [oD, SeqAt.shaped, PyData.canLay0, PyData.canLayAll0, PyData.depth, PyData.depthAll, this]
    | some x => simp [oD, SeqAt.shaped, PyData.canLay0, PyData.canLayAll0, PyData.depth, PyData.depthAll, this]
theorem w_ratesD (c : Cs) {h : Int} {q : Nat} {xs : List IV} {rs : List (Int × Int)} (h0 : 0 ≤ h) (h1 : h ≤ 64) (gq : ih[q]? = some (.lst xs)) (pr : PR ih xs rs) (hb : RB rs) (hl : rs.length ≤ 1000) (hn : 0 < rs.length)
    (k : ∀ v d ih', RD (2 ^ h.toNat) rs d → Fla ih' v d → Fx ih ih' → ih.length ≤ ih'.length → Q v ih') : wp (m_rates_seen c [.int h, .ref q] ih) Q E :=
  w_rates c h0 h1 gq pr hb hl hn (fun n z t ih' ez n1 n2 n3 n4 g fx l => k (.ref t) _ ih' (.inl ⟨n, n1, n2, n3, n4, by rw [← ez]⟩) (.inr (.inr ⟨t, _, _, rfl, g, .cons (.str _) (.cons (.int _) .nil), rfl⟩)) fx l)
    fun l g t ih' st so gt fx le => k (.ref t) _ ih' (.inr ⟨l, g, st, so, rfl⟩) (.inr (.inr ⟨t, _, _, rfl, gt, .cons (.str _) (.cons (.int _) (.cons (Is.ofO g) .nil)), rfl⟩)) fx le
end
end L3
/-! K08f: the law. (L15) (L17) -/
namespace L3
open PySem PySem.Spec PyProof.Rows L2
local macro_rules | `(tactic| walk_at "get") => `(tactic| simp (disch := first | assumption | omega | (simp only [List.length_append, List.length_set, List.length_cons, List.length_nil, List.length_map] <;> omega) | fail) only [g_new, g_nw, g_old, g_set, g_sne, List.length_append, List.length_set, List.length_cons, List.length_nil, List.length_map, List.map_map, Function.comp_def, xs_lst, xs_tup, isL_lst, isL_tup, ↓reduceIte, *])
local macro_rules | `(tactic| walk_at "fr") => `(tactic| first | (intro _ _ _; simp (disch := first | assumption | omega | (simp only [List.length_append, List.length_set, List.length_cons, List.length_nil, List.length_map] <;> omega) | fail) only [g_new, g_nw, g_old, g_set, g_sne, List.length_append, List.length_set, List.length_cons, List.length_nil, List.length_map, List.map_map, Function.comp_def, xs_lst, xs_tup, isL_lst, isL_tup, ↓reduceIte, *]) | (intro _ _; simp (disch := first | assumption | omega | (simp only [List.length_append, List.length_set, List.length_cons, List.length_nil, List.length_map] <;> omega) | fail) only [g_new, g_nw, g_old, g_set, g_sne, List.length_append, List.length_set, List.length_cons, List.length_nil, List.length_map, List.map_map, Function.comp_def, xs_lst, xs_tup, isL_lst, isL_tup, ↓reduceIte, *]))
local macro_rules | `(tactic| walk_at "run") => `(tactic| simp -implicitDefEqProofs (disch := first | assumption | omega | (simp only [List.length_append, List.length_set, List.length_cons, List.length_nil, List.length_map] <;> omega) | fail) only [wp_ok, wp_exc, wp_stuck, ws_ok, ws_exc, ws_stuck, wp_op, kk_op, kk_un, wp_un, wp_cons, kk_cons, kk_cons2, wp_nil, wp_c, wp_app, wp_if, kk_if1, kk_if0, wp_and, kk_and1, kk_and0, wp_or, kk_or1, kk_or0, wp_not, kk_not, wp_tb, kk_tb, wp_andV, kk_andV1, kk_andV0, wp_orV, kk_orV1, kk_orV0, wp_notV, kk_notV, wp_noneS, wp_some, kk_some, wp_sl, kk_sl, kk_sl2, kk_sl3, wp_mL, kk_mL, kk_mL2, wp_mL0, kk_mL0, wp_chain, kk_ch, kk_ch2, kk_ch31, kk_ch30, ws_set, kks_nm, kks_g, kks_tup, kks_lst, ws_expr, kks_expr, ws_ret, kks_ret, ws_retN, ws_pass, ws_brk, ws_cont, ws_raise, ws_if, kks_if1, kks_if0, ws_seq, kks_next, kks_retS, kks_brk, kks_cont, kk_augE, ws_aug, kks_aug, kks_aug2, ws_par, kks_par, ws_setL, kks_sl, kks_sl2, kks_sl3, wp_def, kkd_ret, kkd_next, kkdE, kkE, ws_for, wp_lc, wp_r1, kk_r1, wp_r2, kk_r2, wp_il, wp_it, wp_ie, wp_iz, kk_il, kk_il2, kk_it, kk_it2, kk_ie, kk_ie2, kk_iz, kk_iz2, lAt_k, k_lAtL, k_lAtO, k_lAtT, wp_int, wp_add, wp_addI, wp_sub, wp_neg, wp_lt, wp_le, wp_gt, wp_ge, wp_max2, wp_min2, wp_abs, wp_mulI, wp_mul, wp_fdiv, wp_mod, wp_shl, wp_shr, wp_pow, wp_isN, wp_notN, wp_eqI, wp_neI, wp_ix, kk_ix, kk_ix2, wp_len, kk_lenL, kk_lenT, kk_lenO, kk_lenP, wp_appd, kk_app1, isL_k, kk_isL, startI_cons, startI_nil, rep_succ, rep_zero, List.getElem?_cons_zero, List.getElem?_cons_succ, List.set_cons_zero, List.set_cons_succ, f_call, m_var, List.append_nil, List.nil_append, List.cons_append, List.length_cons, List.length_nil, if_true, if_false, g_tup, g_lst, g_cons, g_nil, g_nm, Option.bind_some, kks_g, atI_0, atI_1, atI_2, atI_3, atI_4, atI_5, atI_6, atI_7, atI_8, atI_9, atI_10, atI_11, atI_12, atI_last, cutI_1, ixN_30, ixN_31, ixN_32, Int.toNat_zero, Int.reduceToNat, Int.reduceNeg, xs_lst, xs_tup, xs_ro, xs_rot, isL_lst, isL_tup, isL_ro, isL_rot, isT_tup, isT_rot, Bool.false_eq_true, Bool.true_eq_false, Bool.not_true, Bool.not_false, decide_true, decide_false, Int.reduceLT, Int.reduceLE, Nat.reduceLT, Nat.reduceLeDiff, Nat.reduceAdd, Nat.reduceEqDiff, Bool.not_eq_true, true_and, and_true, and_self, eq_self, g_new, g_nw, g_old, g_set, g_sne, List.length_set, List.length_append, wp_r3, kk_r3, Int.cast_ofNat_Int, Int.reduceEq, Int.natCast_zero, Int.natCast_one, ws_whileA, wp_isiII, wp_isiIB, wp_isiI_list, wp_isiI_tuple, wp_isiI_str, wp_isiR, tyO_l, tyO_t, kk_isi, kk_isi2, kit_ll, kit_tt, kit_lt, kit_tl, wp_isiN, wp_isiBl, wp_isiS, tyO_d, kit2_NoneType_int, kit2_NoneType_bool, kit2_NoneType_list, kit2_NoneType_tuple, kit2_NoneType_str, kit2_bool_int, kit2_bool_bool, kit2_bool_list, kit2_bool_tuple, kit2_bool_str, kit2_str_int, kit2_str_bool, kit2_str_list, kit2_str_tuple, kit2_str_str, kit2_dict_int, kit2_dict_bool, kit2_dict_list, kit2_dict_tuple, kit2_dict_str, kit2_list_int, kit2_list_bool, kit2_list_str, kit2_tuple_int, kit2_tuple_bool, kit2_tuple_str, kit2_int_list, kit2_int_tuple, kit2_int_str, kf_next, kf_cont, kf_brk, kf_ret, wipeI, wp_lstE, wp_tupE, wp_dctE, wp_lamE, wp_catE, kk_catL, g_appn, g_app0, g_appo, g_setn, g_set0, List.append_assoc, Nat.zero_add, ws_try, wp_isEg, wp_isEt, kk_isE, wp_neS, wp_int2, ↓reduceIte, *])
section
variable {p m : Nat} {ih ih' : IH} {Q : PQ IV} {E : EQ}
theorem Pair.fx {t : Nat} {m h : Int} {a b : IH} (p : Pair t m h a) (f : Fx a b) : Pair t m h b := ⟨(f t (lt_of_get p.g)).trans p.g, p.m0, p.m1, p.h0, p.h1⟩
theorem Pair.al {t z : Nat} {m h : Int} {a : IH} {ys zs : List IV} (p : Pair t m h a) (g : a[z]? = some (.lst ys)) : Pair t m h (a.set z (.lst zs)) := ⟨by rw [g_sne (fun e => by rw [e] at g; exact absurd (g.symm.trans p.g) (by simp))]; exact p.g, p.m0, p.m1, p.h0, p.h1⟩
theorem push {z : Nat} {ys : List IV} {v w : IV} {d : PyData} (g : ih[z]? = some (.lst ys)) (a : ∀ y ∈ ys, Two ih y) (hv : Fla ih v d) (hw : Fla ih w d) (sh : SeqAt.shaped d = true) :
    ∃ ih2, ih2 = (ih ++ [MO.tup [v, w]]).set z (.lst (ys ++ [.ref ih.length])) ∧ ih2[z]? = some (.lst (ys ++ [.ref ih.length])) ∧ (∀ y ∈ ys ++ [.ref ih.length], Two ih2 y) ∧ Fr z ih ih2 ∧ ih2.length = ih.length + 1 := by
  have zl := lt_of_get g
  have g1 : (ih ++ [MO.tup [v, w]])[z]? = some (.lst ys) := by rw [g_appo zl]; exact g
  obtain ⟨ys', e1, e2, e3⟩ := Al.push g1 rfl (fun y hy => (a y hy).tp Fx.apps.tp) (t := ih.length) g_app0 (hv.tp Fx.apps.tp) (hw.tp Fx.apps.tp) sh
  have e4 : ((ih ++ [MO.tup [v, w]]).set z (.lst (ys ++ [.ref ih.length])))[z]? = some (.lst (ys ++ [.ref ih.length])) := g_set (by simp; omega)
  rw [e4] at e1
  cases e1
  exact ⟨_, rfl, e4, e3, fun n h1 h2 => by rw [g_sne (Ne.symm h2)]; exact g_appo h1, by simp⟩
theorem PR.al {z : Nat} {xs : List IV} {rs : List (Int × Int)} {ys : List IV} (h : PR ih xs rs) (g : ih[z]? = some (.lst ys)) (f : Fr z ih ih') : PR ih' xs rs := h.mono fun t i j e => by
  rw [f t (lt_of_get e) (fun e2 => by rw [e2, g] at e; cases e)]
  exact e
theorem Src0.frz {z : Nat} (s : Src0 p m ih) (f : Fr z ih ih') (h : z ≠ p) : Src0 p m ih' := by
  obtain ⟨a, b, k, g, r⟩ := s
  exact ⟨a, b, k, (f p (lt_of_get g) (Ne.symm h)).trans g, r⟩
theorem w_named (c : Cs) (s : Src0 p m ih) (hm : m + 30 ≤ 1000000) (k : ∀ ih', Src0 p (m + 30) ih' → Fr p ih ih' → ih.length ≤ ih'.length → Q (.bl true) ih') : wp (m_law_named c [.ref p] ih) Q E := by
  have lp := s.lt
  have k := Hide.mk k
  have c9 : cPow 10 9 = true := by decide
  have z9 : decide ((0 : Int) < 10 ^ 9) = true := by decide
  unfold m_law_named b_law_named
  walk_at "run"
  refine w_next c s (by decide) ((lit 7 : B 7 99).mono (by decide)) (by omega) fun a ih1 a0 a1 s1 f1 l1 => ?_
  have F := Hide.mk f1
  replace l1 : ih.length ≤ ih1.length := by omega
  clear f1 s
  walk_at "run"
  refine w_next c s1 (by decide) ((lit 7 : B 7 65).mono (by decide)) (by omega) fun b ih2 b0 b1 s2 f2 l2 => ?_
  have F := Hide.mk (F.get.trans f2 l1)
  replace l2 : ih1.length ≤ ih2.length := by omega
  clear f2 s1
  have lp2 : p < ih2.length := s2.lt
  walk_at "run"
  refine w_next c (s2.fx Fx.apps) (by decide) ((lit 30 : B 30 (10 ^ 9)).mono (by decide)) (by omega) fun g ih3 g0 g1 s3 f3 l3 => ?_
  have gt : ih3[ih2.length]? = some (.tup [.int (1 + a), .int b]) := (f3 ih2.length (by simp) (by omega)).trans g_app0
  have F := Hide.mk (F.get.trans (Fx.apps.fr.trans f3 (by simp)) (by omega))
  replace l3 : ih2.length + 1 ≤ ih3.length := by rw [l3]; simp
  obtain ⟨t, ht⟩ : ∃ t, t = ih2.length := ⟨_, rfl⟩
  have tp : t ≠ p := by omega
  rw [← ht] at gt
  rw [← ht]
  have lt3 : t < ih3.length := by omega
  clear f3 s2 ht
  walk_at "run"
  unfold lc_law_named_1
  walk_at "run"
  refine w_next c s3 (by decide) ((lit 7 : B 7 4).mono (by decide)) (by omega) fun j ih4 j0 j1 s4 f4 l4 => ?_
  have gt := (f4 t lt3 tp).trans gt
  have F := Hide.mk (F.get.trans f4 (by omega))
  replace l4 : ih3.length ≤ ih4.length := by omega
  clear f4 s3
  walk_at "run"
  refine ⟨smallI_mk (by omega) (by omega), ?_⟩
  obtain ⟨jj, hjj⟩ : ∃ jj, jj = (1 + j).toNat := ⟨_, rfl⟩
  have jj1 : 1 ≤ jj ∧ jj ≤ 4 := by omega
  rw [← hjj]
  clear hjj
  refine lc_draw2 s4 (by omega) (fun k hk ih' s' fr lx => ?_) fun ihR xs rs hl pr hr sR fR lR gR => ?_
  · unfold le_law_named_1
    walk_at "run"
    refine w_next c s' (by decide) ((lit 7 : B 7 9).mono (by decide)) (by omega) fun x ih5 x0 x1 s5 f5 l5 => ?_
    have F5 := Hide.mk f5
    replace l5 : ih'.length ≤ ih5.length := by omega
    clear f5 s'
    walk_at "run"
    refine w_next c s5 (by decide) ((lit 7 : B 7 9).mono (by decide)) (by omega) fun y ih6 y0 y1 s6 f6 l6 => ?_
    have F6 := Hide.mk (F5.get.trans f6 l5)
    replace l6 : ih5.length ≤ ih6.length := by omega
    clear f6 s5
    walk_at "run"
    exact ⟨⟨_, x, y, rfl, g_app0, by omega, x0, x1, y0, y1⟩, (s6.fx Fx.apps).mono (by omega), F6.get.trans Fx.apps.fr (by omega), by omega⟩
  have gt := (fR t (by omega) tp).trans gt
  have F := Hide.mk (F.get.trans fR (by omega))
  obtain ⟨q, hq⟩ : ∃ q, q = ih4.length := ⟨_, rfl⟩
  rw [← hq] at gR lR
  rw [← hq]
  have lpq : p < q := by have := s4.lt; omega
  have tq : t < q := by omega
  have L0 : ih.length ≤ q := by omega
  clear hq fR s4 l1 l2 l3 l4 lp2 lt3
  have hRB : RB rs := fun r h => by
    obtain ⟨h1, h2, h3, h4⟩ := hr r h
    exact ⟨h1, (B.lt (n := 10) h1 (by omega)).mono (by decide), (B.lt (n := 10) h3 (by omega)).mono (by decide)⟩
  walk_at "run"
  rw [wp_listE gR rfl]
  -- the list kept
  obtain ⟨ihK, hK⟩ : ∃ x, x = ihR ++ [MO.lst xs] := ⟨_, rfl⟩
  have fK : Fx ihR ihK := hK ▸ Fx.app
  have gK : ihK[ihR.length]? = some (.lst xs) := by rw [hK]; exact g_app0
  have lK : ihR.length < ihK.length := by rw [hK]; simp
  have gR := (fK q lR).trans gR
  have gt := (fK t (by omega)).trans gt
  have prK := pr.fx fK
  have sK := sR.fx fK
  have F := Hide.mk (F.get.trans fK.fr (by omega))
  have gxs : (MO.lst xs).xs = xs := rfl
  rw [gxs, ← hK]
  obtain ⟨q2, hq2⟩ : ∃ q2, q2 = ihR.length := ⟨_, rfl⟩
  rw [← hq2] at gK lK lR
  rw [← hq2]
  clear hK fK pr sR hq2 gxs
  have gB : B 200 g := (B.lt (n := 40) g0 (by omega)).mono (by decide)
  have P0 : Pair t (1 + a) b ihK := ⟨gt, by omega, by omega, b0, by omega⟩
  walk_at "run"
  refine wp_callK ⟨rfl, rfl⟩ ?_
  show wp (m_rate_reading c [.ref t, .int g] ihK) _ _
  rw [q_rr c P0 g0 (gB.mono (by decide))]
  walk_at "run"
  rw [q_rr c P0 g0 (gB.mono (by decide))]
  walk_at "run"
  refine wp_callK ⟨rfl, rfl⟩ ?_
  show wp (m_first_cycle c [.ref t, .int g] _) _ _
  rw [q_fc c (P0.fx Fx.apps) g0 (gB.mono (by decide))]
  walk_at "run"
  rw [q_fc c (P0.fx Fx.apps) g0 (gB.mono (by decide))]
  walk_at "run"
  generalize eU : IV.int (g * (1 + a) / 2 ^ b.toNat) = u1
  generalize eW : IV.int (ce (g * 2 ^ b.toNat) (1 + a)) = u2
  obtain ⟨z, hz⟩ : ∃ z, z = ihK.length + 1 := ⟨_, rfl⟩
  obtain ⟨ihA, hA⟩ : ∃ x, x = ihK ++ [MO.tup [u1, u1], MO.lst [IV.ref ihK.length, IV.ref (ihK.length + 2)], MO.tup [u2, u2]] := ⟨_, rfl⟩
  rw [← hA, ← hz]
  have fA : Fx ihK ihA := hA ▸ Fx.apps
  have lA : ihA.length = ihK.length + 3 := by rw [hA]; simp
  have G0 : ihA[ihK.length]? = some (.tup [u1, u1]) := by rw [hA]; exact g_app0
  have gz : ihA[z]? = some (.lst [IV.ref ihK.length, IV.ref (ihK.length + 2)]) := by rw [hA, hz]; exact g_appn
  have G2 : ihA[ihK.length + 2]? = some (.tup [u2, u2]) := by rw [hA]; exact g_appn
  have aA : ∀ y ∈ [IV.ref ihK.length, IV.ref (ihK.length + 2)], Two ihA y := fun y hy => by
    simp only [List.mem_cons, List.not_mem_nil, or_false] at hy
    rcases hy with e | e <;> subst e
    · exact ⟨_, _, _, .int (g * (1 + a) / 2 ^ b.toNat), rfl, G0, .inl ⟨_, eU.symm, rfl⟩, .inl ⟨_, eU.symm, rfl⟩, shaped_int _⟩
    · exact ⟨_, _, _, .int (ce (g * 2 ^ b.toNat) (1 + a)), rfl, G2, .inl ⟨_, eW.symm, rfl⟩, .inl ⟨_, eW.symm, rfl⟩, shaped_int _⟩
  have PA := P0.fx fA
  have gR := (fA q (by omega)).trans gR
  have gK := (fA q2 lK).trans gK
  have prA := prK.fx fA
  have sA := sK.fx fA
  have F := Hide.mk (F.get.trans fA.fr (by omega))
  have zl : z < ihA.length := by omega
  have zq : z ≠ q := by omega
  have zq2 : z ≠ q2 := by omega
  have zp : z ≠ p := by omega
  replace lA : ihK.length + 3 ≤ ihA.length := by omega
  replace hz : ihK.length < z := by omega
  generalize hys : [IV.ref ihK.length, IV.ref (ihK.length + 2)] = ys at gz aA
  have ly : ys.length = 2 := by rw [← hys]; rfl
  clear hA fA G0 G2 hys gt prK sK P0 eU eW
  refine wp_callK ⟨rfl, rfl⟩ ?_
  show wp (m_best_rate c [.int 3, .int 7, .int (g + 1)] ihA) _ _
  refine w_bestD c (by decide) (by decide) (by omega) ((lit 10 : B 10 3).mono (by decide)) ((lit 10 : B 10 7).mono (by decide)) ((B.lt (n := 40) (by omega) (by omega)).mono (by decide)) fun v d ihB hd hv fB lB => ?_
  have gz := (fB z zl).trans gz
  have aB : ∀ y ∈ ys, Two ihB y := fun y hy => (aA y hy).tp fB.tp
  have PB := PA.fx fB
  have gR := (fB q (by omega)).trans gR
  have gK := (fB q2 (by omega)).trans gK
  have prB := prA.fx fB
  have sB := sA.fx fB
  have F := Hide.mk (F.get.trans fB.fr (by omega))
  clear fB aA PA prA sA
  walk_at "run"
  refine w_bestD c (by decide) (by decide) (by omega) ((lit 10 : B 10 3).mono (by decide)) ((lit 10 : B 10 7).mono (by decide)) ((B.lt (n := 40) (by omega) (by omega)).mono (by decide)) fun w d' ihC hd' hw fC lC => ?_
  have hv := hv.tp fC.tp
  obtain rfl := hd.one hd'
  have sh := hd.sh
  have gz := (fC z (by omega)).trans gz
  have aC : ∀ y ∈ ys, Two ihC y := fun y hy => (aB y hy).tp fC.tp
  have PC := PB.fx fC
  have gR := (fC q (by omega)).trans gR
  have gK := (fC q2 (by omega)).trans gK
  have prC := prB.fx fC
  have sC := sB.fx fC
  have F := Hide.mk (F.get.trans fC.fr (by omega))
  have zC : z < ihC.length := by omega
  have zqC : q < ihC.length := by omega
  have zq2C : q2 < ihC.length := by omega
  clear fC aB PB prB sB hd hd' lA
  walk_at "run"
  have gz0 := gz
  obtain ⟨ihD, eD, gz, aD, fD, lD⟩ := push gz aC hv hw sh
  rw [← eD]
  have ly2 : (ys ++ [IV.ref ihC.length]).length = 3 := by simp [ly]
  generalize ys ++ [IV.ref ihC.length] = ys2 at gz aD ly2
  have PD : Pair t (1 + a) b ihD := ⟨(fD t (by omega) (by omega)).trans PC.g, PC.m0, PC.m1, PC.h0, PC.h1⟩
  have gR := (fD q zqC (by omega)).trans gR
  have gK := (fD q2 zq2C (by omega)).trans gK
  have prD := prC.al gz0 fD
  have sD := sC.frz fD zp
  have zD : z < ihD.length := by omega
  have F := Hide.mk (show Fr p ih ihD from fun n h1 h2 => (fD n (by omega) (by omega)).trans (F.get n h1 h2))
  have zqD : q < ihD.length := by omega
  have zq2D : q2 < ihD.length := by omega
  replace lD : ihC.length + 1 ≤ ihD.length := by omega
  clear eD gz0 fD aC PC prC sC hv hw sh
  refine wp_callK ⟨rfl, rfl⟩ ?_
  show wp (m_longest_span c [.int 9, .ref t] ihD) _ _
  refine w_span c PD.g (by decide) (by decide) PD.m0 PD.m1 PD.h0 PD.h1 fun v ev => ?_
  replace ev := Hide.mk ev
  walk_at "run"
  refine w_span c PD.g (by decide) (by decide) PD.m0 PD.m1 PD.h0 PD.h1 fun w ew => ?_
  have vw : w = v := ew.trans ev.get.symm
  clear ev ew
  subst vw
  walk_at "run"
  have gz0 := gz
  obtain ⟨ihE, eE, gz, aE, fE, lE⟩ := push gz aD (v := .int w) (w := .int w) (d := .int w) (.inl ⟨_, rfl, rfl⟩) (.inl ⟨_, rfl, rfl⟩) (shaped_int _)
  rw [← eE]
  have ly3 : (ys2 ++ [IV.ref ihD.length]).length = 4 := by simp [ly2]
  generalize ys2 ++ [IV.ref ihD.length] = ys3 at gz aE ly3
  have gR := (fE q zqD (by omega)).trans gR
  have gK := (fE q2 zq2D (by omega)).trans gK
  have prE := prD.al gz0 fE
  have sE := sD.frz fE zp
  have F := Hide.mk (show Fr p ih ihE from fun n h1 h2 => (fE n (by omega) (by omega)).trans (F.get n h1 h2))
  replace lE : ihD.length + 1 ≤ ihE.length := by omega
  clear eE gz0 fE aD PD prD sD
  refine wp_callK ⟨rfl, rfl⟩ ?_
  show wp (m_rates_seen c [.int 2, .ref q] ihE) _ _
  refine w_ratesD c (by decide) (by decide) gR prE hRB (by omega) (by omega) fun v d ihG hd hv fG lG => ?_
  have gz := (fG z (by omega)).trans gz
  have aG : ∀ y ∈ ys3, Two ihG y := fun y hy => (aE y hy).tp fG.tp
  have gR := (fG q (by omega)).trans gR
  have gK := (fG q2 (by omega)).trans gK
  have prG := prE.fx fG
  have sG := sE.fx fG
  have F := Hide.mk (F.get.trans fG.fr (by omega))
  clear fG aE prE sE
  walk_at "run"
  refine w_ratesD c (by decide) (by decide) gK prG hRB (by omega) (by omega) fun w d' ihH hd' hw fH lH => ?_
  have hv := hv.tp fH.tp
  obtain rfl := hd.one (by omega) hd'
  have sh := hd.sh
  have gz := (fH z (by omega)).trans gz
  have aH : ∀ y ∈ ys3, Two ihH y := fun y hy => (aG y hy).tp fH.tp
  have gR := (fH q (by omega)).trans gR
  have gK := (fH q2 (by omega)).trans gK
  have prH := prG.fx fH
  have sH := sG.fx fH
  have F := Hide.mk (F.get.trans fH.fr (by omega))
  have zH : z < ihH.length := by omega
  have zqH : q < ihH.length := by omega
  have zq2H : q2 < ihH.length := by omega
  clear fH aG prG sG hd hd'
  walk_at "run"
  have gz0 := gz
  obtain ⟨ihI, eI, gz, aI, fI, lI⟩ := push gz aH hv hw sh
  rw [← eI]
  have ly4 : (ys3 ++ [IV.ref ihH.length]).length = 5 := by simp [ly3]
  generalize ys3 ++ [IV.ref ihH.length] = ys4 at gz aI ly4
  have gR := (fI q zqH (by omega)).trans gR
  have gK := (fI q2 zq2H (by omega)).trans gK
  have prI := prH.al gz0 fI
  have sI := sH.frz fI zp
  have F := Hide.mk (show Fr p ih ihI from fun n h1 h2 => (fI n (by omega) (by omega)).trans (F.get n h1 h2))
  replace lI : ihH.length + 1 ≤ ihI.length := by omega
  clear eI gz0 fI aH prH sH hv hw sh
  unfold lc_law_named_2
  walk_at "run"
  refine lc_alike gz (by omega) (fun x hx => ?_) (fun v w ih' => rfl) ?_
  · obtain ⟨t, v, w, d, e, g, h1, h2, h3⟩ := aI x hx
    exact ⟨t, v, w, d, e, g, h1.is, h2.is, h3⟩
  rw [show (ys4.map fun _ => IV.bl true) = (ys4.map fun _ => true).map IV.bl by rw [List.map_map]; rfl]
  obtain ⟨ihJ, hJ⟩ : ∃ x, x = ihI ++ [MO.lst ((ys4.map fun _ => true).map IV.bl)] := ⟨_, rfl⟩
  have gJ : ihJ[ihI.length]? = some (.lst ((ys4.map fun _ => true).map IV.bl)) := by rw [hJ]; exact g_app0
  have fJ : Fx ihI ihJ := hJ ▸ Fx.app
  have lJ : ihI.length ≤ ihJ.length := by rw [hJ]; simp
  rw [← hJ]
  have gR := (fJ q (by omega)).trans gR
  have gK := (fJ q2 (by omega)).trans gK
  have prJ := prI.fx fJ
  have sJ := Hide.mk (sI.fx fJ)
  have F := Hide.mk (F.get.trans fJ.fr (by omega))
  clear hJ fJ sI prI gz aI
  walk_at "run"
  refine wp_allL (ys4.map fun _ => true) gJ ?_
  rw [show (ys4.map fun _ => true).all id = true by simp]
  clear gJ
  walk_at "run"
  have shp : SeqAt.shaped (.list (rs.map prD)) = true := by
    have := depth_prs rs
    unfold SeqAt.shaped
    rw [Bool.and_eq_true]
    exact ⟨by simp [PyData.canLay0, canLay_prs], decide_eq_true (by simp only [PyData.depth]; omega)⟩
  refine wp_eq (.lst gR rfl prJ.is) (.lst gK rfl prJ.is) shp shp ?_
  rw [eqv_same shp]
  have fin := k.get ihJ (sJ.get.mono (by omega)) F.get (by omega)
  exact fin
theorem w_body_loop (c : Cs) (ok : CsOk c) {kk p : Nat} (hk : kk ≤ 4) {k : Int} {ih1 : IH} {S : SQ} {F : ES} (s1 : Src0 p 0 ih1) {a3 : Option IV}
    (fin : ∀ a3 ih', Src0 p (60 * kk) ih' → Fr p ih1 ih' → ih1.length ≤ ih'.length → S (.next [some (.ref 0), some (.int k), some (.ref p), a3]) ih') :
    ks_for (g_nm 3) (lb_law_1 c) [some (.ref 0), some (.int k), some (.ref p), a3] S F (.rng 0 1 kk) ih1 := by
  refine for_rng0 (fun i env ih' => (∃ a3, env = [some (.ref 0), some (.int k), some (.ref p), a3]) ∧ Src0 p (60 * i) ih' ∧ Fr p ih1 ih' ∧ ih1.length ≤ ih'.length) ⟨⟨_, rfl⟩, s1, Fr.refl, Nat.le_refl _⟩ (fun i env ih2 hi hP => ?_) fun env ih2 hP => ?_
  · obtain ⟨⟨a3, ee⟩, s2, f2, l2⟩ := hP
    subst ee
    have f2 := Hide.mk f2
    unfold lb_law_1
    walk_at "run"
    refine w_refused c ok s2 (by omega) fun ih3 s3 f3 l3 => ?_
    have f3 := Hide.mk (f2.get.trans f3 l2)
    walk_at "run"
    refine w_named c s3 (by omega) fun ih4 s4 f4 l4 => ?_
    have f4 := Hide.mk (f3.get.trans f4 (by omega))
    walk_at "run"
    exact Inv.mk ⟨⟨_, rfl⟩, s4.mono (by omega), f4.get, by omega⟩
  · obtain ⟨⟨a3, ee⟩, s2, f2, l2⟩ := hP
    subst ee
    exact fin _ _ s2 f2 l2
theorem w_body (c : Cs) (ok : CsOk c) {ns : List Int} {k : Nat} {a2 a3 : Option IV} {S : SQ} {F : ES} (h : Scr ns ih) (hb : ∀ z ∈ ns, ibits z ≤ 1048576) (hk : k ≤ 1000) (P : Env → IH → Prop)
    (kk : ∀ b2 b3 ih', Scr ns ih' → P [some (.ref 0), some (.int (k : Int)), b2, b3] ih') : ws (lb_law_2 c [some (.ref 0), some (.int (k : Int)), a2, a3] ih) (kf P S) F := by
  have hl : 0 < ih.length := lt_of_get h
  have hs : ih[0]? = some (.ro (ns.map IV.int)) := h
  unfold lb_law_2
  walk_at "run"
  refine w_source c h hb (by omega) fun ih1 s1 f1 l1 => ?_
  obtain ⟨p, ep⟩ : ∃ p, ih.length = p := ⟨_, rfl⟩
  rw [ep] at s1 l1 hl ⊢
  have hs1 : ih1[0]? = some (.ro (ns.map IV.int)) := by rw [f1 0 (by omega)]; exact hs
  walk_at "run"
  refine ⟨smallI_mk (by omega) (by omega), ?_⟩
  refine w_body_loop c ok (Nat.le_refl 4) s1 fun a3 ih2 s2 f2 l2 => ?_
  have hs2 : Scr ns ih2 := by
    unfold Scr
    rw [f2 0 (by omega) (by omega)]
    exact hs1
  have kz := kk (some (.ref p)) a3 ih2 hs2
  clear kk
  walk_at "run"
  exact Inv.mk kz
theorem w_law (c : Cs) (ok : CsOk c) {ns : List Int} (h : Scr ns ih) (hb : ∀ z ∈ ns, ibits z ≤ 1048576) (hl : ns.length ≤ 63) (q : ∀ ih', Q (.bl true) ih') : wp (m_law c [.ref 0] ih) Q E := by
  have h' : ih[0]? = some (.ro (ns.map IV.int)) := h
  unfold m_law b_law
  walk_at "run"
  rw [List.length_map]
  obtain ⟨j, ej⟩ : ∃ j : Int, (if (if (ns.length : Int) > 1 then (ns.length : Int) else 1) < 4 then (if (ns.length : Int) > 1 then (ns.length : Int) else 1) else 4) = j := ⟨_, rfl⟩
  have hj : 1 ≤ j ∧ j ≤ 4 := by rw [← ej]; split <;> split <;> omega
  rw [ej]
  refine ⟨smallI_mk (by omega) (by omega), ?_⟩
  refine for_rng0 (fun i env ih' => (∃ a1 a2 a3, env = [some (.ref 0), a1, a2, a3]) ∧ Scr ns ih') ⟨⟨_, _, _, rfl⟩, h⟩ (fun i env ih' hi hP => ?_) fun env ih' hP => ?_
  · obtain ⟨⟨a1, a2, a3, ee⟩, h2⟩ := hP
    subst ee
    exact w_body c ok h2 hb (by omega) _ fun b2 b3 ih3 h3 => ⟨⟨_, _, _, rfl⟩, h3⟩
  · obtain ⟨⟨a1, a2, a3, ee⟩, h2⟩ := hP
    subst ee
    walk_at "run"
    all_goals exact q _
theorem run_law (c : Cs) (ok : CsOk c) (ns : List Int) (h : ns.length ≤ 63) (hb : ∀ z ∈ ns, ibits z ≤ 1048576) : ∃ ih, m_law c [.ref 0] [.ro (ns.map IV.int)] = .ok (.bl true) ih := by
  obtain ⟨v, ih, e, rfl⟩ := (w_law c ok (ns := ns) (ih := [.ro (ns.map IV.int)]) (Q := fun v _ => v = .bl true) (E := E0) rfl hb h fun _ => rfl).out
  exact ⟨ih, e⟩
end
end L3
namespace L3
open PySem PySem.Spec PyProof.Rows L2

abbrev topS (i : Nat) : Stmt := PySem.Challenge.pw_timekernel_k08_rates_refused.main.body.getD i (.Pass ⟨0, 0, 0, 0⟩)
structure Txt (K : PySem.W.Frag) (mg : Str → Option Value) (c : Cs) : Prop where
  kk : c.K = K
  b_ValueError : mg "ValueError" = none
  b_all : mg "all" = none
  b_bool : mg "bool" = none
  b_enumerate : mg "enumerate" = none
  b_int : mg "int" = none
  b_isinstance : mg "isinstance" = none
  b_len : mg "len" = none
  b_list : mg "list" = none
  b_max : mg "max" = none
  b_min : mg "min" = none
  b_range : mg "range" = none
  b_sorted : mg "sorted" = none
  b_tuple : mg "tuple" = none
  g_MOST_BEST : ∃ u, mg "MOST_BEST" = some u ∧ RelV ((.int 32) : V) u
  g_MOST_SHIFT : ∃ u, mg "MOST_SHIFT" = some u ∧ RelV ((.int 64) : V) u
  g_MOST_WIDTH : ∃ u, mg "MOST_WIDTH" = some u ∧ RelV ((.int 64) : V) u
  x_KernelError : ExcX K mg "KernelError" c.KernelError
  x_NoCycle : ExcX K mg "NoCycle" c.NoCycle
  x_NoLine : ExcX K mg "NoLine" c.NoLine
  x_NoLooks : ExcX K mg "NoLooks" c.NoLooks
  x_NoRate : ExcX K mg "NoRate" c.NoRate
  x_NoReading : ExcX K mg "NoReading" c.NoReading
  x_NoWidth : ExcX K mg "NoWidth" c.NoWidth
section
variable [TabT] {P : Program} {w : World} {K : PySem.W.Frag} {mg : Str → Option Value} {base : Heap} {c : Cs} {f : Addr} {fd : FuncData}
abbrev s__law_mixed : Stmt := topS 31
abbrev N__law_mixed : List Str := ["cell", "k", "low"]
theorem S__law_mixed : FnScope N__law_mixed ["cell", "k"] (defScope s__law_mixed) := ⟨rfl, rfl, rfl, by decide +kernel, rfl, by decide +kernel, by decide +kernel⟩
theorem ok__law_mixed (T : Txt K mg c) (F : FunD K "_law_mixed" "_law_mixed" (defArgs s__law_mixed) (defBody s__law_mixed) (defScope s__law_mixed) [] [] f fd) (hm : mg "_law_mixed" = some (.ref f))  : ∀ [LamT], Df P w K mg base 1 "_law_mixed" 2 [] (m_law_mixed c) := by
 intro I
 obtain rfl := T.kk
 exact df0 (N := N__law_mixed) (mb := b_law_mixed c) F S__law_mixed hm (fun _ _ _ _ _ _ us hl => match us, hl with | [_, _], _ => rfl) fun cdv A outer s H E hr tk hp hu =>
 (lss_cons (ls_set (i := 2) S__law_mixed.nd rfl (Or.inl rfl) (lm_op op_addA s_add (lm_op op_mod s_mod (lm_callTy call_int1 s_int rfl T.b_int (by decide +kernel) (la_cons (lm_var 0) la_nil)) (lm_c (.int 2147483629) pe_int)) (lm_op op_mulA s_mulA (lm_op op_fdivW s_fdiv (lm_var 0) (lm_c (.int 2147483629) pe_int)) (lm_c (.int 30011) pe_int))))
 (lss_cons (ls_set (i := 2) S__law_mixed.nd rfl (Or.inl rfl) (lm_op op_mod s_mod (lm_callTy call_int1 s_int rfl T.b_int (by decide +kernel) (la_cons (lm_op op_mulA s_mulA (lm_op op_addA s_add (lm_op op_addA s_add (lm_var 2) (lm_op op_mulA s_mulA (lm_c (.int 69621) pe_int) (lm_var 1))) (lm_c (.int 1) pe_int)) (lm_c (.int 48271) pe_int)) la_nil)) (lm_c (.int 2147483629) pe_int)))
 (lss_cons (ls_set (i := 2) S__law_mixed.nd rfl (Or.inl rfl) (lm_op op_mod s_mod (lm_callTy call_int1 s_int rfl T.b_int (by decide +kernel) (la_cons (lm_op op_mulA s_mulA (lm_var 2) (lm_op op_addA s_add (lm_op op_addA s_add (lm_op op_fdivW s_fdiv (lm_var 2) (lm_c (.int 907) pe_int)) (lm_c (.int 16831) pe_int)) (lm_var 1))) la_nil)) (lm_c (.int 2147483587) pe_int)))
 (lss_one (ls_ret (lm_op op_mod s_mod (lm_callTy call_int1 s_int rfl T.b_int (by decide +kernel) (la_cons (lm_op op_mulA s_mulA (lm_var 2) (lm_op op_addA s_add (lm_op op_fdivW s_fdiv (lm_var 2) (lm_c (.int 1201) pe_int)) (lm_c (.int 30011) pe_int))) la_nil)) (lm_c (.int 2147483563) pe_int)))))))
abbrev s__law_next : Stmt := topS 33
abbrev N__law_next : List Str := ["source", "many", "found"]
theorem S__law_next : FnScope N__law_next ["source", "many"] (defScope s__law_next) := ⟨rfl, rfl, rfl, by decide +kernel, rfl, by decide +kernel, by decide +kernel⟩
theorem ok__law_next (T : Txt K mg c) (F : FunD K "_law_next" "_law_next" (defArgs s__law_next) (defBody s__law_next) (defScope s__law_next) [] [] f fd) (hm : mg "_law_next" = some (.ref f)) (D__law_mixed : ∀ [LamT], Df P w K mg base 1 "_law_mixed" 2 [] (m_law_mixed c)) : ∀ [LamT], Df P w K mg base 2 "_law_next" 2 [] (m_law_next c) := by
 intro I
 obtain rfl := T.kk
 exact df0 (N := N__law_next) (mb := b_law_next c) F S__law_next hm (fun _ _ _ _ _ _ us hl => match us, hl with | [_, _], _ => rfl) fun cdv A outer s H E hr tk hp hu =>
 (lss_cons (ls_if (lt_cmp op_ge s_ge (lm_ix ix_seq s_ix (lm_var 0) (lm_c (.int 0) pe_int)) (lm_op op_pow s_pow (lm_c (.int 10) pe_int) (lm_c (.int 18) pe_int)))
 (lss_cons (ls_set (i := 2) S__law_next.nd rfl (Or.inl rfl) (lm_op op_mod s_mod (lm_callTy call_int1 s_int rfl T.b_int (by decide +kernel) (la_cons (lm_ix ix_seq s_ix (lm_var 0) (lm_c (.int 0) pe_int)) la_nil)) (lm_var 1)))
 (lss_cons (ls_setL (lm_op op_fdivW s_fdiv (lm_ix ix_seq s_ix (lm_var 0) (lm_c (.int 0) pe_int)) (lm_var 1)) (fun h1 h2 => pg_sub h1 h2 set_list) (lm_var 0) (lm_c (.int 0) pe_int))
 (lss_one (ls_ret (lm_var 2)))))
 lss_nil)
 (lss_cons (ls_setL (lm_op op_addA s_add (lm_ix ix_seq s_ix (lm_var 0) (lm_c (.int 2) pe_int)) (lm_c (.int 1) pe_int)) (fun h1 h2 => pg_sub h1 h2 set_list) (lm_var 0) (lm_c (.int 2) pe_int))
 (lss_one (ls_ret (lm_op op_mod s_mod (lm_callTy call_int1 s_int rfl T.b_int (by decide +kernel) (la_cons (lm_call (x := "_law_mixed") (dvs := []) D__law_mixed 0 (by decide) (hr.mono (by decide)) rfl tk (la_cons (lm_ix ix_seq s_ix (lm_var 0) (lm_c (.int 1) pe_int)) (la_cons (lm_ix ix_seq s_ix (lm_var 0) (lm_c (.int 2) pe_int)) la_nil))) la_nil)) (lm_var 1))))))
abbrev s__law_odd : Stmt := topS 36
abbrev N__law_odd : List Str := ["source", "least", "some"]
theorem S__law_odd : FnScope N__law_odd ["source", "least"] (defScope s__law_odd) := ⟨rfl, rfl, rfl, by decide +kernel, rfl, by decide +kernel, by decide +kernel⟩
theorem ok__law_odd (T : Txt K mg c) (F : FunD K "_law_odd" "_law_odd" (defArgs s__law_odd) (defBody s__law_odd) (defScope s__law_odd) [] [] f fd) (hm : mg "_law_odd" = some (.ref f)) (D__law_next : ∀ [LamT], Df P w K mg base 2 "_law_next" 2 [] (m_law_next c)) : ∀ [LamT], Df P w K mg base 3 "_law_odd" 2 [] (m_law_odd c) := by
 intro I
 obtain rfl := T.kk
 exact df0 (N := N__law_odd) (mb := b_law_odd c) F S__law_odd hm (fun _ _ _ _ _ _ us hl => match us, hl with | [_, _], _ => rfl) fun cdv A outer s H E hr tk hp hu =>
 (lss_cons (ls_set (i := 2) S__law_odd.nd rfl (Or.inl rfl) (lm_lst (la_cons (lm_op op_sub s_sub (lm_var 1) (lm_c (.int 1) pe_int)) (la_cons (lm_un un_neg s_neg (lm_op op_pow s_pow (lm_c (.int 10) pe_int) (lm_c (.int 30) pe_int))) (la_cons (lm_c (.bl true) pe_bl) (la_cons (lm_c (.bl false) pe_bl) (la_cons (lm_c .non pe_non) (la_cons (lm_c (.str "1") pe_str) (la_cons (lm_tup (la_cons (lm_c (.int 1) pe_int) la_nil)) (la_cons (lm_lst (la_cons (lm_c (.int 1) pe_int) la_nil)) (la_cons lm_dct la_nil)))))))))))
 (lss_one (ls_ret (lm_ix ix_seq s_ix (lm_var 2) (lm_call (x := "_law_next") (dvs := []) D__law_next 0 (by decide) (hr.mono (by decide)) rfl tk (la_cons (lm_var 0) (la_cons (lm_callB call_lenA s_len rfl T.b_len (by decide +kernel) (la_cons (lm_var 2) la_nil)) la_nil)))))))
abbrev s__law_odd_pair : Stmt := topS 35
abbrev N__law_odd_pair : List Str := ["source", "some"]
theorem S__law_odd_pair : FnScope N__law_odd_pair ["source"] (defScope s__law_odd_pair) := ⟨rfl, rfl, rfl, by decide +kernel, rfl, by decide +kernel, by decide +kernel⟩
theorem ok__law_odd_pair (T : Txt K mg c) (F : FunD K "_law_odd_pair" "_law_odd_pair" (defArgs s__law_odd_pair) (defBody s__law_odd_pair) (defScope s__law_odd_pair) [] [] f fd) (hm : mg "_law_odd_pair" = some (.ref f)) (D__law_next : ∀ [LamT], Df P w K mg base 2 "_law_next" 2 [] (m_law_next c)) : ∀ [LamT], Df P w K mg base 3 "_law_odd_pair" 1 [] (m_law_odd_pair c) := by
 intro I
 obtain rfl := T.kk
 exact df0 (N := N__law_odd_pair) (mb := b_law_odd_pair c) F S__law_odd_pair hm (fun _ _ _ _ _ _ us hl => match us, hl with | [_], _ => rfl) fun cdv A outer s H E hr tk hp hu =>
 (lss_cons (ls_set (i := 1) S__law_odd_pair.nd rfl (Or.inl rfl) (lm_lst (la_cons (lm_tup (la_cons (lm_c (.int 0) pe_int) (la_cons (lm_c (.int 1) pe_int) la_nil))) (la_cons (lm_tup (la_cons (lm_op op_shlW s_shl (lm_c (.int 1) pe_int) (lm_c (.int 64) pe_int)) (la_cons (lm_c (.int 1) pe_int) la_nil))) (la_cons (lm_tup (la_cons (lm_c (.int 1) pe_int) (la_cons (lm_c (.int 65) pe_int) la_nil))) (la_cons (lm_tup (la_cons (lm_c (.int 1) pe_int) (la_cons (lm_un un_neg s_neg (lm_c (.int 1) pe_int)) la_nil))) (la_cons (lm_tup (la_cons (lm_c (.bl true) pe_bl) (la_cons (lm_c (.int 1) pe_int) la_nil))) (la_cons (lm_tup (la_cons (lm_c (.int 1) pe_int) (la_cons (lm_c (.bl false) pe_bl) la_nil))) (la_cons (lm_lst (la_cons (lm_c (.int 1) pe_int) (la_cons (lm_c (.int 1) pe_int) la_nil))) (la_cons (lm_tup (la_cons (lm_c (.int 1) pe_int) la_nil)) (la_cons (lm_tup (la_cons (lm_c (.int 1) pe_int) (la_cons (lm_c (.int 1) pe_int) (la_cons (lm_c (.int 1) pe_int) la_nil)))) (la_cons (lm_c .non pe_non) (la_cons (lm_c (.str "11") pe_str) la_nil)))))))))))))
 (lss_cons (ls_set (i := 1) S__law_odd_pair.nd rfl (Or.inl rfl) (lm_op op_addA s_add (lm_var 1) (lm_lst (la_cons lm_dct (la_cons (lm_c (.int 7) pe_int) (la_cons (lm_tup (la_cons (lm_c (.str "1") pe_str) (la_cons (lm_c (.int 1) pe_int) la_nil))) (la_cons (lm_tup (la_cons (lm_lst (la_cons (lm_c (.int 1) pe_int) la_nil)) (la_cons (lm_c (.int 1) pe_int) la_nil))) (la_cons (lm_tup (la_cons (lm_c (.int 1) pe_int) (la_cons (lm_lst (la_cons (lm_c (.int 1) pe_int) la_nil)) la_nil))) (la_cons (lm_tup (la_cons (lm_un un_neg s_neg (lm_c (.int 3) pe_int)) (la_cons (lm_c (.int 2) pe_int) la_nil))) (la_cons (lm_tup (la_cons (lm_c (.int 1) pe_int) (la_cons (lm_c .non pe_non) la_nil))) (la_cons (lm_tup la_nil) la_nil)))))))))))
 (lss_one (ls_ret (lm_ix ix_seq s_ix (lm_var 1) (lm_call (x := "_law_next") (dvs := []) D__law_next 0 (by decide) (hr.mono (by decide)) rfl tk (la_cons (lm_var 0) (la_cons (lm_callB call_lenA s_len rfl T.b_len (by decide +kernel) (la_cons (lm_var 1) la_nil)) la_nil))))))))
abbrev s__law_odd_rows : Stmt := topS 37
abbrev N__law_odd_rows : List Str := ["source", "some"]
theorem S__law_odd_rows : FnScope N__law_odd_rows ["source"] (defScope s__law_odd_rows) := ⟨rfl, rfl, rfl, by decide +kernel, rfl, by decide +kernel, by decide +kernel⟩
theorem ok__law_odd_rows (T : Txt K mg c) (F : FunD K "_law_odd_rows" "_law_odd_rows" (defArgs s__law_odd_rows) (defBody s__law_odd_rows) (defScope s__law_odd_rows) [] [] f fd) (hm : mg "_law_odd_rows" = some (.ref f)) (D__law_next : ∀ [LamT], Df P w K mg base 2 "_law_next" 2 [] (m_law_next c)) : ∀ [LamT], Df P w K mg base 3 "_law_odd_rows" 1 [] (m_law_odd_rows c) := by
 intro I
 obtain rfl := T.kk
 exact df0 (N := N__law_odd_rows) (mb := b_law_odd_rows c) F S__law_odd_rows hm (fun _ _ _ _ _ _ us hl => match us, hl with | [_], _ => rfl) fun cdv A outer s H E hr tk hp hu =>
 (lss_cons (ls_set (i := 1) S__law_odd_rows.nd rfl (Or.inl rfl) (lm_lst (la_cons (lm_lst la_nil) (la_cons (lm_c .non pe_non) (la_cons (lm_tup la_nil) (la_cons (lm_tup (la_cons (lm_tup (la_cons (lm_c (.int 0) pe_int) (la_cons (lm_c (.int 0) pe_int) la_nil))) la_nil)) (la_cons (lm_lst (la_cons (lm_tup (la_cons (lm_c (.int 0) pe_int) la_nil)) la_nil)) (la_cons (lm_lst (la_cons (lm_lst (la_cons (lm_c (.int 0) pe_int) (la_cons (lm_c (.int 0) pe_int) la_nil))) la_nil)) (la_cons (lm_lst (la_cons (lm_tup (la_cons (lm_un un_neg s_neg (lm_c (.int 1) pe_int)) (la_cons (lm_c (.int 0) pe_int) la_nil))) la_nil)) (la_cons (lm_lst (la_cons (lm_tup (la_cons (lm_c (.int 0) pe_int) (la_cons (lm_c (.bl true) pe_bl) la_nil))) la_nil)) (la_cons (lm_lst (la_cons (lm_tup (la_cons (lm_c (.bl true) pe_bl) (la_cons (lm_c (.int 0) pe_int) la_nil))) la_nil)) (la_cons (lm_lst (la_cons (lm_tup (la_cons (lm_c (.int 0) pe_int) (la_cons (lm_c (.str "1") pe_str) la_nil))) la_nil)) (la_cons lm_dct (la_cons (lm_c (.str "ab") pe_str) la_nil))))))))))))))
 (lss_cons (ls_set (i := 1) S__law_odd_rows.nd rfl (Or.inl rfl) (lm_op op_addA s_add (lm_var 1) (lm_lst (la_cons (lm_lst (la_cons (lm_tup (la_cons (lm_c (.int 0) pe_int) (la_cons (lm_c (.int 0) pe_int) la_nil))) (la_cons (lm_tup (la_cons (lm_c (.int 1) pe_int) (la_cons (lm_c .non pe_non) la_nil))) la_nil))) (la_cons (lm_lst (la_cons (lm_tup (la_cons (lm_c (.int 0) pe_int) (la_cons (lm_c (.int 0) pe_int) (la_cons (lm_c (.int 0) pe_int) la_nil)))) la_nil)) (la_cons (lm_lst (la_cons (lm_c .non pe_non) la_nil)) (la_cons (lm_lst (la_cons (lm_tup (la_cons (lm_c (.int 0) pe_int) (la_cons (lm_c (.int 0) pe_int) la_nil))) (la_cons (lm_tup (la_cons (lm_c (.int 2) pe_int) (la_cons (lm_c (.int 1) pe_int) la_nil))) (la_cons (lm_c (.int 7) pe_int) la_nil)))) (la_cons (lm_lst (la_cons (lm_tup (la_cons (lm_lst (la_cons (lm_c (.int 0) pe_int) la_nil)) (la_cons (lm_c (.int 0) pe_int) la_nil))) la_nil)) (la_cons (lm_c (.int 3) pe_int) la_nil)))))))))
 (lss_one (ls_ret (lm_ix ix_seq s_ix (lm_var 1) (lm_call (x := "_law_next") (dvs := []) D__law_next 0 (by decide) (hr.mono (by decide)) rfl tk (la_cons (lm_var 0) (la_cons (lm_callB call_lenA s_len rfl T.b_len (by decide +kernel) (la_cons (lm_var 1) la_nil)) la_nil))))))))
abbrev s__law_word : Stmt := topS 34
abbrev N__law_word : List Str := ["call", "e", "kinds"]
theorem S__law_word : FnScope N__law_word ["call"] (defScope s__law_word) := ⟨rfl, rfl, rfl, by decide +kernel, rfl, by decide +kernel, by decide +kernel⟩
theorem ok__law_word (T : Txt K mg c) (F : FunD K "_law_word" "_law_word" (defArgs s__law_word) (defBody s__law_word) (defScope s__law_word) [] [] f fd) (hm : mg "_law_word" = some (.ref f))  : ∀ {k : Nat}, DfW P w K mg base (k + 1) "_law_word" 1 3 0 (b_law_word c) := by
 intro k
 obtain rfl := T.kk
 exact dfW (N := N__law_word) (i := 0) F S__law_word hm rfl (by first | exact Or.inl rfl | exact Or.inr (Or.inl rfl)) (fun _ _ _ _ _ _ us hl => match us, hl with | [_], _ => rfl) fun I base2 cdv A outer s H E lams hr tk hp hu act =>
 (lss_one (ls_try (i := 1) rfl rfl S__law_word.nd rfl rfl ⟨rfl, by decide, .inl T.x_KernelError.g⟩ tk (fun W pn xe tk' hp' => (lss_one (ls_ret (lm_tup (la_cons (lm_c (.str "told") pe_str) (la_cons (act tk' (by first | exact Or.inl rfl | exact Or.inr (Or.inl rfl) | exact Or.inr (Or.inr rfl))) la_nil))))))
 (fun ea ec oe pn hz hd => (lss_cons (ls_set (i := 2) S__law_word.nd rfl (Or.inl rfl) (lm_lst (la_cons (lm_callB (call_isEA hz hd) s_isE rfl T.b_isinstance (by decide +kernel) (la_cons (lm_var 1) (la_cons (lm_c (.gl c.NoWidth) (lg_glob (v := V.ref c.NoWidth) ⟨_, T.x_NoWidth.g, rfl⟩ rfl)) la_nil))) (la_cons (lm_callB (call_isEA hz hd) s_isE rfl T.b_isinstance (by decide +kernel) (la_cons (lm_var 1) (la_cons (lm_c (.gl c.NoLooks) (lg_glob (v := V.ref c.NoLooks) ⟨_, T.x_NoLooks.g, rfl⟩ rfl)) la_nil))) (la_cons (lm_callB (call_isEA hz hd) s_isE rfl T.b_isinstance (by decide +kernel) (la_cons (lm_var 1) (la_cons (lm_c (.gl c.NoCycle) (lg_glob (v := V.ref c.NoCycle) ⟨_, T.x_NoCycle.g, rfl⟩ rfl)) la_nil))) (la_cons (lm_callB (call_isEA hz hd) s_isE rfl T.b_isinstance (by decide +kernel) (la_cons (lm_var 1) (la_cons (lm_c (.gl c.NoRate) (lg_glob (v := V.ref c.NoRate) ⟨_, T.x_NoRate.g, rfl⟩ rfl)) la_nil))) la_nil))))))
 (lss_cons (ls_set (i := 2) S__law_word.nd rfl (Or.inl rfl) (lm_op op_addA s_add (lm_var 2) (lm_lst (la_cons (lm_callB (call_isEA hz hd) s_isE rfl T.b_isinstance (by decide +kernel) (la_cons (lm_var 1) (la_cons (lm_c (.gl c.NoReading) (lg_glob (v := V.ref c.NoReading) ⟨_, T.x_NoReading.g, rfl⟩ rfl)) la_nil))) (la_cons (lm_callB (call_isEA hz hd) s_isE rfl T.b_isinstance (by decide +kernel) (la_cons (lm_var 1) (la_cons (lm_c (.gl c.NoLine) (lg_glob (v := V.ref c.NoLine) ⟨_, T.x_NoLine.g, rfl⟩ rfl)) la_nil))) la_nil)))))
 (lss_cons (ls_if (PW.pt (lw_or (lt_cmp (op_neX hu) s_ne (lm_mL PySem.F.slot_list_count PySem.F.type_list_count mt_count s_count (lm_var 2) (la_cons (lm_c (.bl true) pe_bl) la_nil)) (lm_c (.int 1) pe_int)) (lw_or1 (lt_not (lt_val (lm_callB (call_isEA hz hd) s_isE rfl T.b_isinstance (by decide +kernel) (la_cons (lm_var 1) (la_cons (lm_c (.ty "ValueError") (pe_bltn (v := .ty "ValueError") rfl T.b_ValueError (by decide +kernel) rfl)) la_nil))))))))
 (lss_one (ls_ret (lm_c (.str "several") pe_str)))
 lss_nil)
 (lss_one (ls_ret (lm_ix ix_seq s_ix (lm_lst (la_cons (lm_c (.str "width") pe_str) (la_cons (lm_c (.str "looks") pe_str) (la_cons (lm_c (.str "cycle") pe_str) (la_cons (lm_c (.str "rate") pe_str) (la_cons (lm_c (.str "reading") pe_str) (la_cons (lm_c (.str "line") pe_str) la_nil))))))) (lm_mL PySem.F.slot_list_index PySem.F.type_list_index mt_index s_index (lm_var 2) (la_cons (lm_c (.bl true) pe_bl) la_nil)))))))))))
abbrev s_is_whole : Stmt := topS 9
abbrev N_is_whole : List Str := ["thing", "least"]
theorem S_is_whole : FnScope N_is_whole ["thing", "least"] (defScope s_is_whole) := ⟨rfl, rfl, rfl, by decide +kernel, rfl, by decide +kernel, by decide +kernel⟩
theorem ok_is_whole (T : Txt K mg c) (F : FunD K "is_whole" "is_whole" (defArgs s_is_whole) (defBody s_is_whole) (defScope s_is_whole) [V.non] [] f fd) (hm : mg "is_whole" = some (.ref f))  : ∀ [LamT], Df P w K mg base 1 "is_whole" 2 [.non] (m_is_whole c) := by
 intro I
 obtain rfl := T.kk
 exact dfD (N := N_is_whole) (mb := b_is_whole c) F S_is_whole hm rfl rfl rfl (fun j hj => match j, hj with | 0, _ => F.binds1 1 0 (by decide) rfl (fun _ _ _ _ _ _ _ us its h1 h2 => match us, its, h1, h2 with | [_], [_], _, _ => ⟨_, rfl, rfl⟩) | 1, _ => F.binds1 2 1 (by decide) rfl (fun _ _ _ _ _ _ _ us its h1 h2 => match us, its, h1, h2 with | [_, _], [_], _, _ => ⟨_, rfl, rfl⟩)) fun cdv A outer s H E hr tk hp hu =>
 (lss_one (ls_ret (lm_and (lm_callB call_isi s_isi rfl T.b_isinstance (by decide +kernel) (la_cons (lm_var 0) (la_cons (lm_c (.ty "int") (pe_bltn (v := .ty "int") rfl T.b_int (by decide +kernel) rfl)) la_nil))) (lm_and (lm_not (lm_callB call_isi s_isi rfl T.b_isinstance (by decide +kernel) (la_cons (lm_var 0) (la_cons (lm_c (.ty "bool") (pe_bltn (v := .ty "bool") rfl T.b_bool (by decide +kernel) rfl)) la_nil)))) (lm_one (lm_or (lm_cmp op_isN s_isN (lm_var 1) (lm_c .non pe_non)) (lm_one (lm_cmp op_ge s_ge (lm_var 0) (lm_var 1)))))))))
abbrev s_power : Stmt := topS 10
abbrev N_power : List Str := ["number"]
theorem S_power : FnScope N_power ["number"] (defScope s_power) := ⟨rfl, rfl, rfl, by decide +kernel, rfl, by decide +kernel, by decide +kernel⟩
theorem ok_power (T : Txt K mg c) (F : FunD K "power" "power" (defArgs s_power) (defBody s_power) (defScope s_power) [] [] f fd) (hm : mg "power" = some (.ref f))  : ∀ [LamT], Df P w K mg base 1 "power" 1 [] (m_power c) := by
 intro I
 obtain rfl := T.kk
 exact df0 (N := N_power) (mb := b_power c) F S_power hm (fun _ _ _ _ _ _ us hl => match us, hl with | [_], _ => rfl) fun cdv A outer s H E hr tk hp hu =>
 (lss_one (ls_ret (lm_op op_shlW s_shl (lm_c (.int 1) pe_int) (lm_var 0))))
abbrev s_best_rate : Stmt := topS 24
abbrev N_best_rate : List Str := ["frequency", "units", "most", "shift", "mult"]
theorem S_best_rate : FnScope N_best_rate ["frequency", "units", "most"] (defScope s_best_rate) := ⟨rfl, rfl, rfl, by decide +kernel, rfl, by decide +kernel, by decide +kernel⟩
theorem ok_best_rate (T : Txt K mg c) (F : FunD K "best_rate" "best_rate" (defArgs s_best_rate) (defBody s_best_rate) (defScope s_best_rate) [] [] f fd) (hm : mg "best_rate" = some (.ref f)) (D_is_whole : ∀ [LamT], Df P w K mg base 1 "is_whole" 2 [.non] (m_is_whole c)) (D_power : ∀ [LamT], Df P w K mg base 1 "power" 1 [] (m_power c)) : ∀ [LamT], Df P w K mg base 2 "best_rate" 3 [] (m_best_rate c) := by
 intro I
 obtain rfl := T.kk
 exact df0 (N := N_best_rate) (mb := b_best_rate c) F S_best_rate hm (fun _ _ _ _ _ _ us hl => match us, hl with | [_, _, _], _ => rfl) fun cdv A outer s H E hr tk hp hu =>
 (lss_cons (ls_if (PW.pt (lw_or (lt_not (lt_val (lm_call (x := "is_whole") (dvs := [.non]) D_is_whole 1 (by decide) (hr.mono (by decide)) rfl tk (la_cons (lm_var 0) (la_cons (lm_c (.int 1) pe_int) la_nil))))) (lw_or (lt_not (lt_val (lm_call (x := "is_whole") (dvs := [.non]) D_is_whole 1 (by decide) (hr.mono (by decide)) rfl tk (la_cons (lm_var 1) (la_cons (lm_c (.int 1) pe_int) la_nil))))) (lw_or1 (lt_not (lt_val (lm_call (x := "is_whole") (dvs := [.non]) D_is_whole 1 (by decide) (hr.mono (by decide)) rfl tk (la_cons (lm_var 2) (la_cons (lm_c (.int 1) pe_int) la_nil)))))))))
 (lss_one (ls_raise rfl tk PySem.F.excBase_ValueError T.x_NoRate.q T.x_NoRate.g T.x_NoRate.k (raises_own T.x_NoRate.b T.x_NoRate.t) rfl))
 lss_nil)
 (lss_cons (ls_for hp rfl (li_rng3 rfl T.b_range (la_cons (lm_c (.int 32) (lg_glob T.g_MOST_BEST rfl)) (la_cons (lm_un un_neg s_neg (lm_c (.int 1) pe_int)) (la_cons (lm_un un_neg s_neg (lm_c (.int 1) pe_int)) la_nil)))) (pg_name (i := 3) S_best_rate.nd rfl (Or.inl rfl)) (sg_nm 3)
 (lss_cons (ls_set (i := 4) S_best_rate.nd rfl (Or.inl rfl) (lm_op op_fdivW s_fdiv (lm_op op_shlW s_shl (lm_var 1) (lm_var 3)) (lm_var 0)))
 (lss_one (ls_if (PW.pt (lw_and (lt_cmp op_ge s_ge (lm_var 4) (lm_c (.int 1) pe_int)) (lw_and1 (lt_cmp op_lt s_lt (lm_op op_mulA s_mulA (lm_var 4) (lm_var 2)) (lm_call (x := "power") (dvs := []) D_power 0 (by decide) (hr.mono (by decide)) rfl tk (la_cons (lm_c (.int 64) pe_int) la_nil))))))
 (lss_one (ls_ret (lm_tup (la_cons (lm_var 4) (la_cons (lm_var 3) la_nil)))))
 lss_nil))))
 (lss_one (ls_ret (lm_c .non pe_non)))))
theorem okK_best_rate (T : Txt K mg c) (F : FunD K "best_rate" "best_rate" (defArgs s_best_rate) (defBody s_best_rate) (defScope s_best_rate) [] [] f fd) (hm : mg "best_rate" = some (.ref f)) (D_is_whole : ∀ [LamT], Df P w K mg base 1 "is_whole" 2 [.non] (m_is_whole c)) (D_power : ∀ [LamT], Df P w K mg base 1 "power" 1 [] (m_power c)) : ∀ [LamT], DfK P w K mg base 2 "best_rate" 3 ["most", "units", "frequency"] (pick [2, 1, 0]) (m_best_rate c) := by
 intro I
 obtain rfl := T.kk
 exact dfKn (N := N_best_rate) (mb := b_best_rate c) F S_best_rate hm (fun _ _ _ _ _ _ us hl => match us, hl with | [_, _, _], _ => rfl) fun cdv A outer s H E hr tk hp hu =>
 (lss_cons (ls_if (PW.pt (lw_or (lt_not (lt_val (lm_call (x := "is_whole") (dvs := [.non]) D_is_whole 1 (by decide) (hr.mono (by decide)) rfl tk (la_cons (lm_var 0) (la_cons (lm_c (.int 1) pe_int) la_nil))))) (lw_or (lt_not (lt_val (lm_call (x := "is_whole") (dvs := [.non]) D_is_whole 1 (by decide) (hr.mono (by decide)) rfl tk (la_cons (lm_var 1) (la_cons (lm_c (.int 1) pe_int) la_nil))))) (lw_or1 (lt_not (lt_val (lm_call (x := "is_whole") (dvs := [.non]) D_is_whole 1 (by decide) (hr.mono (by decide)) rfl tk (la_cons (lm_var 2) (la_cons (lm_c (.int 1) pe_int) la_nil)))))))))
 (lss_one (ls_raise rfl tk PySem.F.excBase_ValueError T.x_NoRate.q T.x_NoRate.g T.x_NoRate.k (raises_own T.x_NoRate.b T.x_NoRate.t) rfl))
 lss_nil)
 (lss_cons (ls_for hp rfl (li_rng3 rfl T.b_range (la_cons (lm_c (.int 32) (lg_glob T.g_MOST_BEST rfl)) (la_cons (lm_un un_neg s_neg (lm_c (.int 1) pe_int)) (la_cons (lm_un un_neg s_neg (lm_c (.int 1) pe_int)) la_nil)))) (pg_name (i := 3) S_best_rate.nd rfl (Or.inl rfl)) (sg_nm 3)
 (lss_cons (ls_set (i := 4) S_best_rate.nd rfl (Or.inl rfl) (lm_op op_fdivW s_fdiv (lm_op op_shlW s_shl (lm_var 1) (lm_var 3)) (lm_var 0)))
 (lss_one (ls_if (PW.pt (lw_and (lt_cmp op_ge s_ge (lm_var 4) (lm_c (.int 1) pe_int)) (lw_and1 (lt_cmp op_lt s_lt (lm_op op_mulA s_mulA (lm_var 4) (lm_var 2)) (lm_call (x := "power") (dvs := []) D_power 0 (by decide) (hr.mono (by decide)) rfl tk (la_cons (lm_c (.int 64) pe_int) la_nil))))))
 (lss_one (ls_ret (lm_tup (la_cons (lm_var 4) (la_cons (lm_var 3) la_nil)))))
 lss_nil))))
 (lss_one (ls_ret (lm_c .non pe_non)))))
abbrev s_is_mult : Stmt := topS 20
abbrev N_is_mult : List Str := ["thing"]
theorem S_is_mult : FnScope N_is_mult ["thing"] (defScope s_is_mult) := ⟨rfl, rfl, rfl, by decide +kernel, rfl, by decide +kernel, by decide +kernel⟩
theorem ok_is_mult (T : Txt K mg c) (F : FunD K "is_mult" "is_mult" (defArgs s_is_mult) (defBody s_is_mult) (defScope s_is_mult) [] [] f fd) (hm : mg "is_mult" = some (.ref f)) (D_is_whole : ∀ [LamT], Df P w K mg base 1 "is_whole" 2 [.non] (m_is_whole c)) (D_power : ∀ [LamT], Df P w K mg base 1 "power" 1 [] (m_power c)) : ∀ [LamT], Df P w K mg base 2 "is_mult" 1 [] (m_is_mult c) := by
 intro I
 obtain rfl := T.kk
 exact df0 (N := N_is_mult) (mb := b_is_mult c) F S_is_mult hm (fun _ _ _ _ _ _ us hl => match us, hl with | [_], _ => rfl) fun cdv A outer s H E hr tk hp hu =>
 (lss_one (ls_ret (lm_and (lm_call (x := "is_whole") (dvs := [.non]) D_is_whole 1 (by decide) (hr.mono (by decide)) rfl tk (la_cons (lm_var 0) (la_cons (lm_c (.int 1) pe_int) la_nil))) (lm_one (lm_cmp op_lt s_lt (lm_var 0) (lm_call (x := "power") (dvs := []) D_power 0 (by decide) (hr.mono (by decide)) rfl tk (la_cons (lm_c (.int 64) pe_int) la_nil)))))))
abbrev s_is_shift : Stmt := topS 19
abbrev N_is_shift : List Str := ["thing"]
theorem S_is_shift : FnScope N_is_shift ["thing"] (defScope s_is_shift) := ⟨rfl, rfl, rfl, by decide +kernel, rfl, by decide +kernel, by decide +kernel⟩
theorem ok_is_shift (T : Txt K mg c) (F : FunD K "is_shift" "is_shift" (defArgs s_is_shift) (defBody s_is_shift) (defScope s_is_shift) [] [] f fd) (hm : mg "is_shift" = some (.ref f)) (D_is_whole : ∀ [LamT], Df P w K mg base 1 "is_whole" 2 [.non] (m_is_whole c)) : ∀ [LamT], Df P w K mg base 2 "is_shift" 1 [] (m_is_shift c) := by
 intro I
 obtain rfl := T.kk
 exact df0 (N := N_is_shift) (mb := b_is_shift c) F S_is_shift hm (fun _ _ _ _ _ _ us hl => match us, hl with | [_], _ => rfl) fun cdv A outer s H E hr tk hp hu =>
 (lss_one (ls_ret (lm_and (lm_call (x := "is_whole") (dvs := [.non]) D_is_whole 1 (by decide) (hr.mono (by decide)) rfl tk (la_cons (lm_var 0) (la_cons (lm_c (.int 0) pe_int) la_nil))) (lm_one (lm_cmp op_le s_le (lm_var 0) (lm_c (.int 64) (lg_glob T.g_MOST_SHIFT rfl)))))))
abbrev s_check_rate : Stmt := topS 21
abbrev N_check_rate : List Str := ["rate"]
theorem S_check_rate : FnScope N_check_rate ["rate"] (defScope s_check_rate) := ⟨rfl, rfl, rfl, by decide +kernel, rfl, by decide +kernel, by decide +kernel⟩
theorem ok_check_rate (T : Txt K mg c) (F : FunD K "check_rate" "check_rate" (defArgs s_check_rate) (defBody s_check_rate) (defScope s_check_rate) [] [] f fd) (hm : mg "check_rate" = some (.ref f)) (D_is_mult : ∀ [LamT], Df P w K mg base 2 "is_mult" 1 [] (m_is_mult c)) (D_is_shift : ∀ [LamT], Df P w K mg base 2 "is_shift" 1 [] (m_is_shift c)) : ∀ [LamT], Df P w K mg base 3 "check_rate" 1 [] (m_check_rate c) := by
 intro I
 obtain rfl := T.kk
 exact df0 (N := N_check_rate) (mb := b_check_rate c) F S_check_rate hm (fun _ _ _ _ _ _ us hl => match us, hl with | [_], _ => rfl) fun cdv A outer s H E hr tk hp hu =>
 (lss_one (ls_if (PW.pt (lw_or (lt_not (lt_val (lm_callB call_isi s_isi rfl T.b_isinstance (by decide +kernel) (la_cons (lm_var 0) (la_cons (lm_c (.ty "tuple") (pe_bltn (v := .ty "tuple") rfl T.b_tuple (by decide +kernel) rfl)) la_nil))))) (lw_or (lt_cmp (op_neX hu) s_ne (lm_callB call_lenA s_len rfl T.b_len (by decide +kernel) (la_cons (lm_var 0) la_nil)) (lm_c (.int 2) pe_int)) (lw_or (lt_not (lt_val (lm_call (x := "is_mult") (dvs := []) D_is_mult 0 (by decide) (hr.mono (by decide)) rfl tk (la_cons (lm_ix ix_seq s_ix (lm_var 0) (lm_c (.int 0) pe_int)) la_nil)))) (lw_or1 (lt_not (lt_val (lm_call (x := "is_shift") (dvs := []) D_is_shift 0 (by decide) (hr.mono (by decide)) rfl tk (la_cons (lm_ix ix_seq s_ix (lm_var 0) (lm_c (.int 1) pe_int)) la_nil)))))))))
 (lss_one (ls_raise rfl tk PySem.F.excBase_ValueError T.x_NoRate.q T.x_NoRate.g T.x_NoRate.k (raises_own T.x_NoRate.b T.x_NoRate.t) rfl))
 lss_nil))
abbrev s_round_up : Stmt := topS 11
abbrev N_round_up : List Str := ["number", "by"]
theorem S_round_up : FnScope N_round_up ["number", "by"] (defScope s_round_up) := ⟨rfl, rfl, rfl, by decide +kernel, rfl, by decide +kernel, by decide +kernel⟩
theorem ok_round_up (T : Txt K mg c) (F : FunD K "round_up" "round_up" (defArgs s_round_up) (defBody s_round_up) (defScope s_round_up) [] [] f fd) (hm : mg "round_up" = some (.ref f))  : ∀ [LamT], Df P w K mg base 1 "round_up" 2 [] (m_round_up c) := by
 intro I
 obtain rfl := T.kk
 exact df0 (N := N_round_up) (mb := b_round_up c) F S_round_up hm (fun _ _ _ _ _ _ us hl => match us, hl with | [_, _], _ => rfl) fun cdv A outer s H E hr tk hp hu =>
 (lss_one (ls_ret (lm_op op_sub s_sub (lm_c (.int 0) pe_int) (lm_op op_fdivW s_fdiv (lm_op op_sub s_sub (lm_c (.int 0) pe_int) (lm_var 0)) (lm_var 1)))))
abbrev s_first_cycle : Stmt := topS 23
abbrev N_first_cycle : List Str := ["rate", "reading"]
theorem S_first_cycle : FnScope N_first_cycle ["rate", "reading"] (defScope s_first_cycle) := ⟨rfl, rfl, rfl, by decide +kernel, rfl, by decide +kernel, by decide +kernel⟩
theorem ok_first_cycle (T : Txt K mg c) (F : FunD K "first_cycle" "first_cycle" (defArgs s_first_cycle) (defBody s_first_cycle) (defScope s_first_cycle) [] [] f fd) (hm : mg "first_cycle" = some (.ref f)) (D_check_rate : ∀ [LamT], Df P w K mg base 3 "check_rate" 1 [] (m_check_rate c)) (D_is_whole : ∀ [LamT], Df P w K mg base 1 "is_whole" 2 [.non] (m_is_whole c)) (D_round_up : ∀ [LamT], Df P w K mg base 1 "round_up" 2 [] (m_round_up c)) : ∀ [LamT], Df P w K mg base 4 "first_cycle" 2 [] (m_first_cycle c) := by
 intro I
 obtain rfl := T.kk
 exact df0 (N := N_first_cycle) (mb := b_first_cycle c) F S_first_cycle hm (fun _ _ _ _ _ _ us hl => match us, hl with | [_, _], _ => rfl) fun cdv A outer s H E hr tk hp hu =>
 (lss_cons (ls_expr (lm_call (x := "check_rate") (dvs := []) D_check_rate 0 (by decide) (hr.mono (by decide)) rfl tk (la_cons (lm_var 0) la_nil)))
 (lss_cons (ls_if (lt_not (lt_val (lm_call (x := "is_whole") (dvs := [.non]) D_is_whole 1 (by decide) (hr.mono (by decide)) rfl tk (la_cons (lm_var 1) (la_cons (lm_c (.int 0) pe_int) la_nil)))))
 (lss_one (ls_raise rfl tk PySem.F.excBase_ValueError T.x_NoReading.q T.x_NoReading.g T.x_NoReading.k (raises_own T.x_NoReading.b T.x_NoReading.t) rfl))
 lss_nil)
 (lss_one (ls_ret (lm_call (x := "round_up") (dvs := []) D_round_up 0 (by decide) (hr.mono (by decide)) rfl tk (la_cons (lm_op op_shlW s_shl (lm_var 1) (lm_ix ix_seq s_ix (lm_var 0) (lm_c (.int 1) pe_int))) (la_cons (lm_ix ix_seq s_ix (lm_var 0) (lm_c (.int 0) pe_int)) la_nil)))))))
theorem okK_first_cycle (T : Txt K mg c) (F : FunD K "first_cycle" "first_cycle" (defArgs s_first_cycle) (defBody s_first_cycle) (defScope s_first_cycle) [] [] f fd) (hm : mg "first_cycle" = some (.ref f)) (D_check_rate : ∀ [LamT], Df P w K mg base 3 "check_rate" 1 [] (m_check_rate c)) (D_is_whole : ∀ [LamT], Df P w K mg base 1 "is_whole" 2 [.non] (m_is_whole c)) (D_round_up : ∀ [LamT], Df P w K mg base 1 "round_up" 2 [] (m_round_up c)) : ∀ [LamT], DfK P w K mg base 4 "first_cycle" 2 ["reading", "rate"] (pick [1, 0]) (m_first_cycle c) := by
 intro I
 obtain rfl := T.kk
 exact dfKn (N := N_first_cycle) (mb := b_first_cycle c) F S_first_cycle hm (fun _ _ _ _ _ _ us hl => match us, hl with | [_, _], _ => rfl) fun cdv A outer s H E hr tk hp hu =>
 (lss_cons (ls_expr (lm_call (x := "check_rate") (dvs := []) D_check_rate 0 (by decide) (hr.mono (by decide)) rfl tk (la_cons (lm_var 0) la_nil)))
 (lss_cons (ls_if (lt_not (lt_val (lm_call (x := "is_whole") (dvs := [.non]) D_is_whole 1 (by decide) (hr.mono (by decide)) rfl tk (la_cons (lm_var 1) (la_cons (lm_c (.int 0) pe_int) la_nil)))))
 (lss_one (ls_raise rfl tk PySem.F.excBase_ValueError T.x_NoReading.q T.x_NoReading.g T.x_NoReading.k (raises_own T.x_NoReading.b T.x_NoReading.t) rfl))
 lss_nil)
 (lss_one (ls_ret (lm_call (x := "round_up") (dvs := []) D_round_up 0 (by decide) (hr.mono (by decide)) rfl tk (la_cons (lm_op op_shlW s_shl (lm_var 1) (lm_ix ix_seq s_ix (lm_var 0) (lm_c (.int 1) pe_int))) (la_cons (lm_ix ix_seq s_ix (lm_var 0) (lm_c (.int 0) pe_int)) la_nil)))))))
abbrev s_check_width : Stmt := topS 14
abbrev N_check_width : List Str := ["width"]
theorem S_check_width : FnScope N_check_width ["width"] (defScope s_check_width) := ⟨rfl, rfl, rfl, by decide +kernel, rfl, by decide +kernel, by decide +kernel⟩
theorem ok_check_width (T : Txt K mg c) (F : FunD K "check_width" "check_width" (defArgs s_check_width) (defBody s_check_width) (defScope s_check_width) [] [] f fd) (hm : mg "check_width" = some (.ref f)) (D_is_whole : ∀ [LamT], Df P w K mg base 1 "is_whole" 2 [.non] (m_is_whole c)) : ∀ [LamT], Df P w K mg base 2 "check_width" 1 [] (m_check_width c) := by
 intro I
 obtain rfl := T.kk
 exact df0 (N := N_check_width) (mb := b_check_width c) F S_check_width hm (fun _ _ _ _ _ _ us hl => match us, hl with | [_], _ => rfl) fun cdv A outer s H E hr tk hp hu =>
 (lss_one (ls_if (PW.pt (lw_or (lt_not (lt_val (lm_call (x := "is_whole") (dvs := [.non]) D_is_whole 1 (by decide) (hr.mono (by decide)) rfl tk (la_cons (lm_var 0) (la_cons (lm_c (.int 1) pe_int) la_nil))))) (lw_or1 (lt_cmp op_gt s_gt (lm_var 0) (lm_c (.int 64) (lg_glob T.g_MOST_WIDTH rfl))))))
 (lss_one (ls_raise rfl tk PySem.F.excBase_ValueError T.x_NoWidth.q T.x_NoWidth.g T.x_NoWidth.k (raises_own T.x_NoWidth.b T.x_NoWidth.t) rfl))
 lss_nil))
abbrev s_longest_span : Stmt := topS 25
abbrev N_longest_span : List Str := ["width", "rate"]
theorem S_longest_span : FnScope N_longest_span ["width", "rate"] (defScope s_longest_span) := ⟨rfl, rfl, rfl, by decide +kernel, rfl, by decide +kernel, by decide +kernel⟩
theorem ok_longest_span (T : Txt K mg c) (F : FunD K "longest_span" "longest_span" (defArgs s_longest_span) (defBody s_longest_span) (defScope s_longest_span) [] [] f fd) (hm : mg "longest_span" = some (.ref f)) (D_check_rate : ∀ [LamT], Df P w K mg base 3 "check_rate" 1 [] (m_check_rate c)) (D_check_width : ∀ [LamT], Df P w K mg base 2 "check_width" 1 [] (m_check_width c)) (D_power : ∀ [LamT], Df P w K mg base 1 "power" 1 [] (m_power c)) : ∀ [LamT], Df P w K mg base 4 "longest_span" 2 [] (m_longest_span c) := by
 intro I
 obtain rfl := T.kk
 exact df0 (N := N_longest_span) (mb := b_longest_span c) F S_longest_span hm (fun _ _ _ _ _ _ us hl => match us, hl with | [_, _], _ => rfl) fun cdv A outer s H E hr tk hp hu =>
 (lss_cons (ls_expr (lm_call (x := "check_width") (dvs := []) D_check_width 0 (by decide) (hr.mono (by decide)) rfl tk (la_cons (lm_var 0) la_nil)))
 (lss_cons (ls_expr (lm_call (x := "check_rate") (dvs := []) D_check_rate 0 (by decide) (hr.mono (by decide)) rfl tk (la_cons (lm_var 1) la_nil)))
 (lss_one (ls_ret (lm_callB (call_min2 rfl) s_min2 rfl T.b_min (by decide +kernel) (la_cons (lm_op op_sub s_sub (lm_call (x := "power") (dvs := []) D_power 0 (by decide) (hr.mono (by decide)) rfl tk (la_cons (lm_var 0) la_nil)) (lm_c (.int 1) pe_int)) (la_cons (lm_op op_fdivW s_fdiv (lm_op op_sub s_sub (lm_call (x := "power") (dvs := []) D_power 0 (by decide) (hr.mono (by decide)) rfl tk (la_cons (lm_c (.int 64) pe_int) la_nil)) (lm_c (.int 1) pe_int)) (lm_ix ix_seq s_ix (lm_var 1) (lm_c (.int 0) pe_int))) la_nil)))))))
theorem okK_longest_span (T : Txt K mg c) (F : FunD K "longest_span" "longest_span" (defArgs s_longest_span) (defBody s_longest_span) (defScope s_longest_span) [] [] f fd) (hm : mg "longest_span" = some (.ref f)) (D_check_rate : ∀ [LamT], Df P w K mg base 3 "check_rate" 1 [] (m_check_rate c)) (D_check_width : ∀ [LamT], Df P w K mg base 2 "check_width" 1 [] (m_check_width c)) (D_power : ∀ [LamT], Df P w K mg base 1 "power" 1 [] (m_power c)) : ∀ [LamT], DfK P w K mg base 4 "longest_span" 2 ["rate", "width"] (pick [1, 0]) (m_longest_span c) := by
 intro I
 obtain rfl := T.kk
 exact dfKn (N := N_longest_span) (mb := b_longest_span c) F S_longest_span hm (fun _ _ _ _ _ _ us hl => match us, hl with | [_, _], _ => rfl) fun cdv A outer s H E hr tk hp hu =>
 (lss_cons (ls_expr (lm_call (x := "check_width") (dvs := []) D_check_width 0 (by decide) (hr.mono (by decide)) rfl tk (la_cons (lm_var 0) la_nil)))
 (lss_cons (ls_expr (lm_call (x := "check_rate") (dvs := []) D_check_rate 0 (by decide) (hr.mono (by decide)) rfl tk (la_cons (lm_var 1) la_nil)))
 (lss_one (ls_ret (lm_callB (call_min2 rfl) s_min2 rfl T.b_min (by decide +kernel) (la_cons (lm_op op_sub s_sub (lm_call (x := "power") (dvs := []) D_power 0 (by decide) (hr.mono (by decide)) rfl tk (la_cons (lm_var 0) la_nil)) (lm_c (.int 1) pe_int)) (la_cons (lm_op op_fdivW s_fdiv (lm_op op_sub s_sub (lm_call (x := "power") (dvs := []) D_power 0 (by decide) (hr.mono (by decide)) rfl tk (la_cons (lm_c (.int 64) pe_int) la_nil)) (lm_c (.int 1) pe_int)) (lm_ix ix_seq s_ix (lm_var 1) (lm_c (.int 0) pe_int))) la_nil)))))))
abbrev s_check_cycle : Stmt := topS 15
abbrev N_check_cycle : List Str := ["cycle", "least"]
theorem S_check_cycle : FnScope N_check_cycle ["cycle", "least"] (defScope s_check_cycle) := ⟨rfl, rfl, rfl, by decide +kernel, rfl, by decide +kernel, by decide +kernel⟩
theorem ok_check_cycle (T : Txt K mg c) (F : FunD K "check_cycle" "check_cycle" (defArgs s_check_cycle) (defBody s_check_cycle) (defScope s_check_cycle) [(V.int 0)] [] f fd) (hm : mg "check_cycle" = some (.ref f)) (D_is_whole : ∀ [LamT], Df P w K mg base 1 "is_whole" 2 [.non] (m_is_whole c)) : ∀ [LamT], Df P w K mg base 2 "check_cycle" 2 [(.int 0)] (m_check_cycle c) := by
 intro I
 obtain rfl := T.kk
 exact dfD (N := N_check_cycle) (mb := b_check_cycle c) F S_check_cycle hm rfl rfl rfl (fun j hj => match j, hj with | 0, _ => F.binds1 1 0 (by decide) rfl (fun _ _ _ _ _ _ _ us its h1 h2 => match us, its, h1, h2 with | [_], [_], _, _ => ⟨_, rfl, rfl⟩) | 1, _ => F.binds1 2 1 (by decide) rfl (fun _ _ _ _ _ _ _ us its h1 h2 => match us, its, h1, h2 with | [_, _], [_], _, _ => ⟨_, rfl, rfl⟩)) fun cdv A outer s H E hr tk hp hu =>
 (lss_one (ls_if (lt_not (lt_val (lm_call (x := "is_whole") (dvs := [.non]) D_is_whole 1 (by decide) (hr.mono (by decide)) rfl tk (la_cons (lm_var 0) (la_cons (lm_var 1) la_nil)))))
 (lss_one (ls_raise rfl tk PySem.F.excBase_ValueError T.x_NoCycle.q T.x_NoCycle.g T.x_NoCycle.k (raises_own T.x_NoCycle.b T.x_NoCycle.t) rfl))
 lss_nil))
abbrev s_rate_reading : Stmt := topS 22
abbrev N_rate_reading : List Str := ["rate", "cycles"]
theorem S_rate_reading : FnScope N_rate_reading ["rate", "cycles"] (defScope s_rate_reading) := ⟨rfl, rfl, rfl, by decide +kernel, rfl, by decide +kernel, by decide +kernel⟩
theorem ok_rate_reading (T : Txt K mg c) (F : FunD K "rate_reading" "rate_reading" (defArgs s_rate_reading) (defBody s_rate_reading) (defScope s_rate_reading) [] [] f fd) (hm : mg "rate_reading" = some (.ref f)) (D_check_cycle : ∀ [LamT], Df P w K mg base 2 "check_cycle" 2 [(.int 0)] (m_check_cycle c)) (D_check_rate : ∀ [LamT], Df P w K mg base 3 "check_rate" 1 [] (m_check_rate c)) : ∀ [LamT], Df P w K mg base 4 "rate_reading" 2 [] (m_rate_reading c) := by
 intro I
 obtain rfl := T.kk
 exact df0 (N := N_rate_reading) (mb := b_rate_reading c) F S_rate_reading hm (fun _ _ _ _ _ _ us hl => match us, hl with | [_, _], _ => rfl) fun cdv A outer s H E hr tk hp hu =>
 (lss_cons (ls_expr (lm_call (x := "check_rate") (dvs := []) D_check_rate 0 (by decide) (hr.mono (by decide)) rfl tk (la_cons (lm_var 0) la_nil)))
 (lss_cons (ls_expr (lm_call (x := "check_cycle") (dvs := [(.int 0)]) D_check_cycle 0 (by decide) (hr.mono (by decide)) rfl tk (la_cons (lm_var 1) la_nil)))
 (lss_one (ls_ret (lm_op op_shr s_shr (lm_op op_mulA s_mulA (lm_var 1) (lm_ix ix_seq s_ix (lm_var 0) (lm_c (.int 0) pe_int))) (lm_ix ix_seq s_ix (lm_var 0) (lm_c (.int 1) pe_int)))))))
theorem okK_rate_reading (T : Txt K mg c) (F : FunD K "rate_reading" "rate_reading" (defArgs s_rate_reading) (defBody s_rate_reading) (defScope s_rate_reading) [] [] f fd) (hm : mg "rate_reading" = some (.ref f)) (D_check_cycle : ∀ [LamT], Df P w K mg base 2 "check_cycle" 2 [(.int 0)] (m_check_cycle c)) (D_check_rate : ∀ [LamT], Df P w K mg base 3 "check_rate" 1 [] (m_check_rate c)) : ∀ [LamT], DfK P w K mg base 4 "rate_reading" 2 ["cycles", "rate"] (pick [1, 0]) (m_rate_reading c) := by
 intro I
 obtain rfl := T.kk
 exact dfKn (N := N_rate_reading) (mb := b_rate_reading c) F S_rate_reading hm (fun _ _ _ _ _ _ us hl => match us, hl with | [_, _], _ => rfl) fun cdv A outer s H E hr tk hp hu =>
 (lss_cons (ls_expr (lm_call (x := "check_rate") (dvs := []) D_check_rate 0 (by decide) (hr.mono (by decide)) rfl tk (la_cons (lm_var 0) la_nil)))
 (lss_cons (ls_expr (lm_call (x := "check_cycle") (dvs := [(.int 0)]) D_check_cycle 0 (by decide) (hr.mono (by decide)) rfl tk (la_cons (lm_var 1) la_nil)))
 (lss_one (ls_ret (lm_op op_shr s_shr (lm_op op_mulA s_mulA (lm_var 1) (lm_ix ix_seq s_ix (lm_var 0) (lm_c (.int 0) pe_int))) (lm_ix ix_seq s_ix (lm_var 0) (lm_c (.int 1) pe_int)))))))
abbrev s_is_seen : Stmt := topS 27
abbrev N_is_seen : List Str := ["thing"]
theorem S_is_seen : FnScope N_is_seen ["thing"] (defScope s_is_seen) := ⟨rfl, rfl, rfl, by decide +kernel, rfl, by decide +kernel, by decide +kernel⟩
theorem ok_is_seen (T : Txt K mg c) (F : FunD K "is_seen" "is_seen" (defArgs s_is_seen) (defBody s_is_seen) (defScope s_is_seen) [] [] f fd) (hm : mg "is_seen" = some (.ref f)) (D_is_whole : ∀ [LamT], Df P w K mg base 1 "is_whole" 2 [.non] (m_is_whole c)) : ∀ [LamT], Df P w K mg base 2 "is_seen" 1 [] (m_is_seen c) := by
 intro I
 obtain rfl := T.kk
 exact df0 (N := N_is_seen) (mb := b_is_seen c) F S_is_seen hm (fun _ _ _ _ _ _ us hl => match us, hl with | [_], _ => rfl) fun cdv A outer s H E hr tk hp hu =>
 (lss_one (ls_ret (lm_and (lm_callB call_isi s_isi rfl T.b_isinstance (by decide +kernel) (la_cons (lm_var 0) (la_cons (lm_c (.ty "tuple") (pe_bltn (v := .ty "tuple") rfl T.b_tuple (by decide +kernel) rfl)) la_nil))) (lm_and (lm_cmp (op_eqX hu) s_eq (lm_callB call_lenA s_len rfl T.b_len (by decide +kernel) (la_cons (lm_var 0) la_nil)) (lm_c (.int 2) pe_int)) (lm_and (lm_call (x := "is_whole") (dvs := [.non]) D_is_whole 1 (by decide) (hr.mono (by decide)) rfl tk (la_cons (lm_ix ix_seq s_ix (lm_var 0) (lm_c (.int 0) pe_int)) (la_cons (lm_c (.int 0) pe_int) la_nil))) (lm_one (lm_call (x := "is_whole") (dvs := [.non]) D_is_whole 0 (by decide) (hr.mono (by decide)) rfl tk (la_cons (lm_ix ix_seq s_ix (lm_var 0) (lm_c (.int 1) pe_int)) la_nil))))))))
abbrev s_narrowed : Stmt := topS 26
abbrev N_narrowed : List Str := ["shift", "least", "greatest", "one", "other", "cycle", "reading", "later", "next_reading", "span", "gain", "most"]
theorem S_narrowed : FnScope N_narrowed ["shift", "least", "greatest", "one", "other"] (defScope s_narrowed) := ⟨rfl, rfl, rfl, by decide +kernel, rfl, by decide +kernel, by decide +kernel⟩
theorem ok_narrowed (T : Txt K mg c) (F : FunD K "narrowed" "narrowed" (defArgs s_narrowed) (defBody s_narrowed) (defScope s_narrowed) [] [] f fd) (hm : mg "narrowed" = some (.ref f)) (D_round_up : ∀ [LamT], Df P w K mg base 1 "round_up" 2 [] (m_round_up c)) : ∀ [LamT], Df P w K mg base 2 "narrowed" 5 [] (m_narrowed c) := by
 intro I
 obtain rfl := T.kk
 exact df0 (N := N_narrowed) (mb := b_narrowed c) F S_narrowed hm (fun _ _ _ _ _ _ us hl => match us, hl with | [_, _, _, _, _], _ => rfl) fun cdv A outer s H E hr tk hp hu =>
 (lss_cons (ls_asg (lm_callB cr_sortedPO s_sortP rfl T.b_sorted (by decide +kernel) (la_cons (lm_lst (la_cons (lm_var 3) (la_cons (lm_var 4) la_nil))) la_nil)) (pg_lst rfl (pgs_cons (pg_tup rfl (pgs_cons (pg_name (i := 5) S_narrowed.nd rfl (Or.inl rfl)) (pgs_cons (pg_name (i := 6) S_narrowed.nd rfl (Or.inl rfl)) pgs_nil))) (pgs_cons (pg_tup rfl (pgs_cons (pg_name (i := 7) S_narrowed.nd rfl (Or.inl rfl)) (pgs_cons (pg_name (i := 8) S_narrowed.nd rfl (Or.inl rfl)) pgs_nil))) pgs_nil))) (sg_lst (sg_cons (sg_tup (sg_cons (sg_nm 5) (sg_cons (sg_nm 6) sg_nil))) (sg_cons (sg_tup (sg_cons (sg_nm 7) (sg_cons (sg_nm 8) sg_nil))) sg_nil))))
 (lss_cons (ls_par (i := 9) (j := 10) (fun h => ps_par (i := 9) (j := 10) rfl S_narrowed.nd rfl rfl (by decide) rfl rfl h rfl) (la_cons (lm_op op_sub s_sub (lm_var 7) (lm_var 5)) (la_cons (lm_op op_sub s_sub (lm_var 8) (lm_var 6)) la_nil)))
 (lss_cons (ls_if (lt_cmp (op_eqX hu) s_eq (lm_var 9) (lm_c (.int 0) pe_int))
 (lss_one (ls_ret (lm_tup (la_cons (lm_var 1) (la_cons (lm_if (lt_cmp (op_eqX hu) s_eq (lm_var 10) (lm_c (.int 0) pe_int)) (lm_var 2) (lm_c (.int 0) pe_int)) la_nil)))))
 lss_nil)
 (lss_cons (ls_set (i := 11) S_narrowed.nd rfl (Or.inl rfl) (lm_op op_fdivW s_fdiv (lm_op op_sub s_sub (lm_op op_shlW s_shl (lm_op op_addA s_add (lm_var 10) (lm_c (.int 1) pe_int)) (lm_var 0)) (lm_c (.int 1) pe_int)) (lm_var 9)))
 (lss_cons (ls_set (i := 1) S_narrowed.nd rfl (Or.inl rfl) (lm_callB (call_max2 rfl) s_max2 rfl T.b_max (by decide +kernel) (la_cons (lm_var 1) (la_cons (lm_call (x := "round_up") (dvs := []) D_round_up 0 (by decide) (hr.mono (by decide)) rfl tk (la_cons (lm_op op_addA s_add (lm_op op_shlW s_shl (lm_op op_sub s_sub (lm_var 10) (lm_c (.int 1) pe_int)) (lm_var 0)) (lm_c (.int 1) pe_int)) (la_cons (lm_var 9) la_nil))) la_nil))))
 (lss_one (ls_ret (lm_tup (la_cons (lm_var 1) (la_cons (lm_if (lt_cmp op_isN s_isN (lm_var 2) (lm_c .non pe_non)) (lm_var 11) (lm_callB (call_min2 rfl) s_min2 rfl T.b_min (by decide +kernel) (la_cons (lm_var 2) (la_cons (lm_var 11) la_nil)))) la_nil))))))))))
abbrev s_rates_seen : Stmt := topS 28
abbrev N_rates_seen : List Str := ["shift", "seen", "least", "greatest", "number", "one", "other"]
theorem S_rates_seen : FnScope N_rates_seen ["shift", "seen"] (defScope s_rates_seen) := ⟨rfl, rfl, rfl, by decide +kernel, rfl, by decide +kernel, by decide +kernel⟩
theorem ok_rates_seen (T : Txt K mg c) (F : FunD K "rates_seen" "rates_seen" (defArgs s_rates_seen) (defBody s_rates_seen) (defScope s_rates_seen) [] [] f fd) (hm : mg "rates_seen" = some (.ref f)) (D_is_seen : ∀ [LamT], Df P w K mg base 2 "is_seen" 1 [] (m_is_seen c)) (D_is_shift : ∀ [LamT], Df P w K mg base 2 "is_shift" 1 [] (m_is_shift c)) (D_narrowed : ∀ [LamT], Df P w K mg base 2 "narrowed" 5 [] (m_narrowed c)) : ∀ [LamT], Df P w K mg base 3 "rates_seen" 2 [] (m_rates_seen c) := by
 intro I
 obtain rfl := T.kk
 exact df0 (N := N_rates_seen) (mb := b_rates_seen c) F S_rates_seen hm (fun _ _ _ _ _ _ us hl => match us, hl with | [_, _], _ => rfl) fun cdv A outer s H E hr tk hp hu =>
 (lss_cons (ls_if (lt_not (lt_val (lm_call (x := "is_shift") (dvs := []) D_is_shift 0 (by decide) (hr.mono (by decide)) rfl tk (la_cons (lm_var 0) la_nil))))
 (lss_one (ls_raise rfl tk PySem.F.excBase_ValueError T.x_NoRate.q T.x_NoRate.g T.x_NoRate.k (raises_own T.x_NoRate.b T.x_NoRate.t) rfl))
 lss_nil)
 (lss_cons (ls_if (PW.pt (lw_or (lt_not (lt_val (lm_callB call_isi s_isi rfl T.b_isinstance (by decide +kernel) (la_cons (lm_var 1) (la_cons (lm_c (.ty "list") (pe_bltn (v := .ty "list") rfl T.b_list (by decide +kernel) rfl)) la_nil))))) (lw_or (lt_cmp (op_eqX hu) s_eq (lm_var 1) (lm_lst la_nil)) (lw_or1 (lt_not (lt_val (lm_callB (cr_all rfl) s_all rfl T.b_all (by decide +kernel) (la_cons (lm_lc (own := [("one", 5)]) rfl S_rates_seen.nd (li_lst (lm_var 1)) (blkOk_by (own := [("one", 5)]) (N := N_rates_seen) (sc := defScope s_rates_seen) (by decide +kernel)) (sg_nm 5) (by decide) (fun _ _ _ _ _ => (pg_name (i := 5) S_rates_seen.nd rfl (Or.inl rfl))) (fun _ _ _ _ _ => lts_nil) (fun _ _ _ _ _ => (lm_call (x := "is_seen") (dvs := []) D_is_seen 0 (by decide) (hr.mono (by decide)) rfl takes0 (la_cons (lm_var 5) la_nil)))) la_nil))))))))
 (lss_one (ls_raise rfl tk PySem.F.excBase_ValueError T.x_NoReading.q T.x_NoReading.g T.x_NoReading.k (raises_own T.x_NoReading.b T.x_NoReading.t) rfl))
 lss_nil)
 (lss_cons (ls_asg (lm_tup (la_cons (lm_c (.int 1) pe_int) (la_cons (lm_c .non pe_non) la_nil))) (pg_tup rfl (pgs_cons (pg_name (i := 2) S_rates_seen.nd rfl (Or.inl rfl)) (pgs_cons (pg_name (i := 3) S_rates_seen.nd rfl (Or.inl rfl)) pgs_nil))) (sg_tup (sg_cons (sg_nm 2) (sg_cons (sg_nm 3) sg_nil))))
 (lss_cons (ls_for hp rfl (li_enm rfl T.b_enumerate (la_cons (lm_var 1) la_nil)) (pg_tup rfl (pgs_cons (pg_name (i := 4) S_rates_seen.nd rfl (Or.inl rfl)) (pgs_cons (pg_name (i := 5) S_rates_seen.nd rfl (Or.inl rfl)) pgs_nil))) (sg_tup (sg_cons (sg_nm 4) (sg_cons (sg_nm 5) sg_nil)))
 (lss_cons (ls_for hp rfl (li_lst (lm_sl (lm_var 1) lo_none (lo_some (lm_var 4)))) (pg_name (i := 6) S_rates_seen.nd rfl (Or.inl rfl)) (sg_nm 6)
 (lss_one (ls_asg (lm_call (x := "narrowed") (dvs := []) D_narrowed 0 (by decide) (hr.mono (by decide)) rfl tk (la_cons (lm_var 0) (la_cons (lm_var 2) (la_cons (lm_var 3) (la_cons (lm_var 6) (la_cons (lm_var 5) la_nil)))))) (pg_tup rfl (pgs_cons (pg_name (i := 2) S_rates_seen.nd rfl (Or.inl rfl)) (pgs_cons (pg_name (i := 3) S_rates_seen.nd rfl (Or.inl rfl)) pgs_nil))) (sg_tup (sg_cons (sg_nm 2) (sg_cons (sg_nm 3) sg_nil))))))
 (lss_one (ls_if (PW.pt (lw_and (lt_cmp op_notN s_notN (lm_var 3) (lm_c .non pe_non)) (lw_and1 (lt_cmp op_gt s_gt (lm_var 2) (lm_var 3)))))
 (lss_one (ls_ret (lm_tup (la_cons (lm_c (.str "none") pe_str) (la_cons (lm_op op_addA s_add (lm_var 4) (lm_c (.int 1) pe_int)) la_nil)))))
 lss_nil))))
 (lss_one (ls_ret (lm_tup (la_cons (lm_c (.str "rates") pe_str) (la_cons (lm_var 2) (la_cons (lm_var 3) la_nil))))))))))
theorem okK_rates_seen (T : Txt K mg c) (F : FunD K "rates_seen" "rates_seen" (defArgs s_rates_seen) (defBody s_rates_seen) (defScope s_rates_seen) [] [] f fd) (hm : mg "rates_seen" = some (.ref f)) (D_is_seen : ∀ [LamT], Df P w K mg base 2 "is_seen" 1 [] (m_is_seen c)) (D_is_shift : ∀ [LamT], Df P w K mg base 2 "is_shift" 1 [] (m_is_shift c)) (D_narrowed : ∀ [LamT], Df P w K mg base 2 "narrowed" 5 [] (m_narrowed c)) : ∀ [LamT], DfK P w K mg base 3 "rates_seen" 2 ["seen", "shift"] (pick [1, 0]) (m_rates_seen c) := by
 intro I
 obtain rfl := T.kk
 exact dfKn (N := N_rates_seen) (mb := b_rates_seen c) F S_rates_seen hm (fun _ _ _ _ _ _ us hl => match us, hl with | [_, _], _ => rfl) fun cdv A outer s H E hr tk hp hu =>
 (lss_cons (ls_if (lt_not (lt_val (lm_call (x := "is_shift") (dvs := []) D_is_shift 0 (by decide) (hr.mono (by decide)) rfl tk (la_cons (lm_var 0) la_nil))))
 (lss_one (ls_raise rfl tk PySem.F.excBase_ValueError T.x_NoRate.q T.x_NoRate.g T.x_NoRate.k (raises_own T.x_NoRate.b T.x_NoRate.t) rfl))
 lss_nil)
 (lss_cons (ls_if (PW.pt (lw_or (lt_not (lt_val (lm_callB call_isi s_isi rfl T.b_isinstance (by decide +kernel) (la_cons (lm_var 1) (la_cons (lm_c (.ty "list") (pe_bltn (v := .ty "list") rfl T.b_list (by decide +kernel) rfl)) la_nil))))) (lw_or (lt_cmp (op_eqX hu) s_eq (lm_var 1) (lm_lst la_nil)) (lw_or1 (lt_not (lt_val (lm_callB (cr_all rfl) s_all rfl T.b_all (by decide +kernel) (la_cons (lm_lc (own := [("one", 5)]) rfl S_rates_seen.nd (li_lst (lm_var 1)) (blkOk_by (own := [("one", 5)]) (N := N_rates_seen) (sc := defScope s_rates_seen) (by decide +kernel)) (sg_nm 5) (by decide) (fun _ _ _ _ _ => (pg_name (i := 5) S_rates_seen.nd rfl (Or.inl rfl))) (fun _ _ _ _ _ => lts_nil) (fun _ _ _ _ _ => (lm_call (x := "is_seen") (dvs := []) D_is_seen 0 (by decide) (hr.mono (by decide)) rfl takes0 (la_cons (lm_var 5) la_nil)))) la_nil))))))))
 (lss_one (ls_raise rfl tk PySem.F.excBase_ValueError T.x_NoReading.q T.x_NoReading.g T.x_NoReading.k (raises_own T.x_NoReading.b T.x_NoReading.t) rfl))
 lss_nil)
 (lss_cons (ls_asg (lm_tup (la_cons (lm_c (.int 1) pe_int) (la_cons (lm_c .non pe_non) la_nil))) (pg_tup rfl (pgs_cons (pg_name (i := 2) S_rates_seen.nd rfl (Or.inl rfl)) (pgs_cons (pg_name (i := 3) S_rates_seen.nd rfl (Or.inl rfl)) pgs_nil))) (sg_tup (sg_cons (sg_nm 2) (sg_cons (sg_nm 3) sg_nil))))
 (lss_cons (ls_for hp rfl (li_enm rfl T.b_enumerate (la_cons (lm_var 1) la_nil)) (pg_tup rfl (pgs_cons (pg_name (i := 4) S_rates_seen.nd rfl (Or.inl rfl)) (pgs_cons (pg_name (i := 5) S_rates_seen.nd rfl (Or.inl rfl)) pgs_nil))) (sg_tup (sg_cons (sg_nm 4) (sg_cons (sg_nm 5) sg_nil)))
 (lss_cons (ls_for hp rfl (li_lst (lm_sl (lm_var 1) lo_none (lo_some (lm_var 4)))) (pg_name (i := 6) S_rates_seen.nd rfl (Or.inl rfl)) (sg_nm 6)
 (lss_one (ls_asg (lm_call (x := "narrowed") (dvs := []) D_narrowed 0 (by decide) (hr.mono (by decide)) rfl tk (la_cons (lm_var 0) (la_cons (lm_var 2) (la_cons (lm_var 3) (la_cons (lm_var 6) (la_cons (lm_var 5) la_nil)))))) (pg_tup rfl (pgs_cons (pg_name (i := 2) S_rates_seen.nd rfl (Or.inl rfl)) (pgs_cons (pg_name (i := 3) S_rates_seen.nd rfl (Or.inl rfl)) pgs_nil))) (sg_tup (sg_cons (sg_nm 2) (sg_cons (sg_nm 3) sg_nil))))))
 (lss_one (ls_if (PW.pt (lw_and (lt_cmp op_notN s_notN (lm_var 3) (lm_c .non pe_non)) (lw_and1 (lt_cmp op_gt s_gt (lm_var 2) (lm_var 3)))))
 (lss_one (ls_ret (lm_tup (la_cons (lm_c (.str "none") pe_str) (la_cons (lm_op op_addA s_add (lm_var 4) (lm_c (.int 1) pe_int)) la_nil)))))
 lss_nil))))
 (lss_one (ls_ret (lm_tup (la_cons (lm_c (.str "rates") pe_str) (la_cons (lm_var 2) (la_cons (lm_var 3) la_nil))))))))))
abbrev s__law_all_refused : Stmt := topS 38
abbrev N__law_all_refused : List Str := ["source", "pair", "odd_pair", "count", "size", "rows", "bits", "step", "worse", "calls", "call"]
theorem S__law_all_refused : FnScope N__law_all_refused ["source"] (defScope s__law_all_refused) := ⟨rfl, rfl, rfl, by decide +kernel, rfl, by decide +kernel, by decide +kernel⟩
theorem ok__law_all_refused {cM PM : Addr} (T : Txt K mg c) (F : FunD K "_law_all_refused" "_law_all_refused" (defArgs s__law_all_refused) (defBody s__law_all_refused) (defScope s__law_all_refused) [] [] f fd) (hm : mg "_law_all_refused" = some (.ref f)) (D__law_next : ∀ [LamT], Df P w K mg base 2 "_law_next" 2 [] (m_law_next c)) (D__law_odd : ∀ [LamT], Df P w K mg base 3 "_law_odd" 2 [] (m_law_odd c)) (D__law_odd_pair : ∀ [LamT], Df P w K mg base 3 "_law_odd_pair" 1 [] (m_law_odd_pair c)) (D__law_odd_rows : ∀ [LamT], Df P w K mg base 3 "_law_odd_rows" 1 [] (m_law_odd_rows c)) (DW__law_word : ∀ {k : Nat}, DfW P w K mg base (k + 1) "_law_word" 1 3 0 (b_law_word c)) (D_best_rate : ∀ [LamT], Df P w K mg base 2 "best_rate" 3 [] (m_best_rate c)) (D_first_cycle : ∀ [LamT], Df P w K mg base 4 "first_cycle" 2 [] (m_first_cycle c)) (D_longest_span : ∀ [LamT], Df P w K mg base 4 "longest_span" 2 [] (m_longest_span c)) (D_rate_reading : ∀ [LamT], Df P w K mg base 4 "rate_reading" 2 [] (m_rate_reading c)) (D_rates_seen : ∀ [LamT], Df P w K mg base 3 "rates_seen" 2 [] (m_rates_seen c)) (hc : fd.code = .ref cM) (ML : MkL base mg cM PM (("_law_all_refused" ++ ".<locals>.") ++ "<lambda>")) : ∀ [LamT], Df P w K mg base 7 "_law_all_refused" 1 [] (m_law_all_refused c) := by
 intro I
 obtain rfl := T.kk
 exact df0F (N := N__law_all_refused) (mb := b_law_all_refused c) (ws := [(lamW (pathS [4] (defBody s__law_all_refused) [0, 0])), (lamW (pathS [5] (defBody s__law_all_refused) [0, 1])), (lamW (pathS [6] (defBody s__law_all_refused) [0, 1])), (lamW (pathS [7] (defBody s__law_all_refused) [0, 1])), (lamW (pathS [8] (defBody s__law_all_refused) [0, 1])), (lamW (pathS [9] (defBody s__law_all_refused) [0, 1])), (lamW (pathS [10] (defBody s__law_all_refused) [0, 1])), (lamW (pathS [12] (defBody s__law_all_refused) [0, 0])), (lamW (pathS [13] (defBody s__law_all_refused) [0, 1])), (lamW (pathS [14] (defBody s__law_all_refused) [0, 1])), (lamW (pathS [15] (defBody s__law_all_refused) [0, 1]))]) F hc S__law_all_refused hm (fun _ _ _ _ _ _ us hl => match us, hl with | [_], _ => rfl) fun I e0 A outer s H E hT hr tk hp hu => by
  have hL : ∀ (r0 : List Addr) (j : Nat), (∃ D, I.fn e0 j = some D ∧ @LamOk _ ⟨r0, I.cs, I.fn⟩ (cxOf (L2.CX P w) P w c.K mg base N__law_all_refused "_law_all_refused" (defScope s__law_all_refused) f (.ref cM) A outer s H E) 4 D (lams_law_all_refused c e0 j)) ∨ ∀ env ih, lams_law_all_refused c e0 j env ih = .stuck := by
   intro r0 j
   match j with
   | 0 => exact lamOk_of (lamW (pathS [4] (defBody s__law_all_refused) [0, 0])) r0 ((hT 0).trans rfl) (show LamX.LamS (defScope s__law_all_refused) _ from LamX.lamS_by (by decide +kernel)) (fun _ _ _ => rfl) fun J A outer s H f c' E hr => (lm_call (x := "rate_reading") (dvs := []) D_rate_reading 0 (by decide) (hr.mono (by decide)) rfl (takes_of rfl rfl rfl rfl) (la_cons (lm_var 2) (la_cons (lm_var 3) la_nil)))
   | 1 => exact lamOk_of (lamW (pathS [5] (defBody s__law_all_refused) [0, 1])) r0 ((hT 1).trans rfl) (show LamX.LamS (defScope s__law_all_refused) _ from LamX.lamS_by (by decide +kernel)) (fun _ _ _ => rfl) fun J A outer s H f c' E hr => (lm_call (x := "first_cycle") (dvs := []) D_first_cycle 0 (by decide) (hr.mono (by decide)) rfl (takes_of rfl rfl rfl rfl) (la_cons (lm_var 2) (la_cons (lm_var 8) la_nil)))
   | 2 => exact lamOk_of (lamW (pathS [6] (defBody s__law_all_refused) [0, 1])) r0 ((hT 2).trans rfl) (show LamX.LamS (defScope s__law_all_refused) _ from LamX.lamS_by (by decide +kernel)) (fun _ _ _ => rfl) fun J A outer s H f c' E hr => (lm_call (x := "longest_span") (dvs := []) D_longest_span 0 (by decide) (hr.mono (by decide)) rfl (takes_of rfl rfl rfl rfl) (la_cons (lm_c (.int 64) pe_int) (la_cons (lm_var 2) la_nil)))
   | 3 => exact lamOk_of (lamW (pathS [7] (defBody s__law_all_refused) [0, 1])) r0 ((hT 3).trans rfl) (show LamX.LamS (defScope s__law_all_refused) _ from LamX.lamS_by (by decide +kernel)) (fun _ _ _ => rfl) fun J A outer s H f c' E hr => (lm_call (x := "best_rate") (dvs := []) D_best_rate 0 (by decide) (hr.mono (by decide)) rfl (takes_of rfl rfl rfl rfl) (la_cons (lm_var 4) (la_cons (lm_var 4) (la_cons (lm_var 4) la_nil))))
   | 4 => exact lamOk_of (lamW (pathS [8] (defBody s__law_all_refused) [0, 1])) r0 ((hT 4).trans rfl) (show LamX.LamS (defScope s__law_all_refused) _ from LamX.lamS_by (by decide +kernel)) (fun _ _ _ => rfl) fun J A outer s H f c' E hr => (lm_call (x := "best_rate") (dvs := []) D_best_rate 0 (by decide) (hr.mono (by decide)) rfl (takes_of rfl rfl rfl rfl) (la_cons (lm_c (.int 5) pe_int) (la_cons (lm_var 4) (la_cons (lm_c (.int 7) pe_int) la_nil))))
   | 5 => exact lamOk_of (lamW (pathS [9] (defBody s__law_all_refused) [0, 1])) r0 ((hT 5).trans rfl) (show LamX.LamS (defScope s__law_all_refused) _ from LamX.lamS_by (by decide +kernel)) (fun _ _ _ => rfl) fun J A outer s H f c' E hr => (lm_call (x := "best_rate") (dvs := []) D_best_rate 0 (by decide) (hr.mono (by decide)) rfl (takes_of rfl rfl rfl rfl) (la_cons (lm_c (.int 5) pe_int) (la_cons (lm_c (.int 6) pe_int) (la_cons (lm_var 4) la_nil))))
   | 6 => exact lamOk_of (lamW (pathS [10] (defBody s__law_all_refused) [0, 1])) r0 ((hT 6).trans rfl) (show LamX.LamS (defScope s__law_all_refused) _ from LamX.lamS_by (by decide +kernel)) (fun _ _ _ => rfl) fun J A outer s H f c' E hr => (lm_call (x := "rates_seen") (dvs := []) D_rates_seen 0 (by decide) (hr.mono (by decide)) rfl (takes_of rfl rfl rfl rfl) (la_cons (lm_var 7) (la_cons (lm_var 5) la_nil)))
   | 7 => exact lamOk_of (lamW (pathS [12] (defBody s__law_all_refused) [0, 0])) r0 ((hT 7).trans rfl) (show LamX.LamS (defScope s__law_all_refused) _ from LamX.lamS_by (by decide +kernel)) (fun _ _ _ => rfl) fun J A outer s H f c' E hr => (lm_call (x := "rate_reading") (dvs := []) D_rate_reading 0 (by decide) (hr.mono (by decide)) rfl (takes_of rfl rfl rfl rfl) (la_cons (lm_var 1) (la_cons (lm_var 3) la_nil)))
   | 8 => exact lamOk_of (lamW (pathS [13] (defBody s__law_all_refused) [0, 1])) r0 ((hT 8).trans rfl) (show LamX.LamS (defScope s__law_all_refused) _ from LamX.lamS_by (by decide +kernel)) (fun _ _ _ => rfl) fun J A outer s H f c' E hr => (lm_call (x := "first_cycle") (dvs := []) D_first_cycle 0 (by decide) (hr.mono (by decide)) rfl (takes_of rfl rfl rfl rfl) (la_cons (lm_var 1) (la_cons (lm_var 3) la_nil)))
   | 9 => exact lamOk_of (lamW (pathS [14] (defBody s__law_all_refused) [0, 1])) r0 ((hT 9).trans rfl) (show LamX.LamS (defScope s__law_all_refused) _ from LamX.lamS_by (by decide +kernel)) (fun _ _ _ => rfl) fun J A outer s H f c' E hr => (lm_call (x := "longest_span") (dvs := []) D_longest_span 0 (by decide) (hr.mono (by decide)) rfl (takes_of rfl rfl rfl rfl) (la_cons (lm_var 6) (la_cons (lm_var 2) la_nil)))
   | 10 => exact lamOk_of (lamW (pathS [15] (defBody s__law_all_refused) [0, 1])) r0 ((hT 10).trans rfl) (show LamX.LamS (defScope s__law_all_refused) _ from LamX.lamS_by (by decide +kernel)) (fun _ _ _ => rfl) fun J A outer s H f c' E hr => (lm_call (x := "rates_seen") (dvs := []) D_rates_seen 0 (by decide) (hr.mono (by decide)) rfl (takes_of rfl rfl rfl rfl) (la_cons (lm_call (x := "_law_next") (dvs := []) D__law_next 0 (by decide) (hr.mono (by decide)) rfl (takes_of rfl rfl rfl rfl) (la_cons (lm_var 0) (la_cons (lm_c (.int 65) pe_int) la_nil))) (la_cons (lm_var 5) la_nil)))
   | _ + 11 => exact .inr (fun _ _ => rfl)
  exact (lss_cons (ls_asg (lm_tup (la_cons (lm_tup (la_cons (lm_op op_addA s_add (lm_c (.int 1) pe_int) (lm_call (x := "_law_next") (dvs := []) D__law_next 0 (by decide) (hr.mono (by decide)) rfl tk (la_cons (lm_var 0) (la_cons (lm_c (.int 99) pe_int) la_nil)))) (la_cons (lm_call (x := "_law_next") (dvs := []) D__law_next 0 (by decide) (hr.mono (by decide)) rfl tk (la_cons (lm_var 0) (la_cons (lm_c (.int 65) pe_int) la_nil))) la_nil))) (la_cons (lm_call (x := "_law_odd_pair") (dvs := []) D__law_odd_pair 0 (by decide) (hr.mono (by decide)) rfl tk (la_cons (lm_var 0) la_nil)) la_nil))) (pg_tup rfl (pgs_cons (pg_name (i := 1) S__law_all_refused.nd rfl (Or.inr rfl)) (pgs_cons (pg_name (i := 2) S__law_all_refused.nd rfl (Or.inr rfl)) pgs_nil))) (sg_tup (sg_cons (sg_nm 1) (sg_cons (sg_nm 2) sg_nil))))
 (lss_cons (ls_asg (lm_tup (la_cons (lm_call (x := "_law_odd") (dvs := []) D__law_odd 0 (by decide) (hr.mono (by decide)) rfl tk (la_cons (lm_var 0) (la_cons (lm_c (.int 0) pe_int) la_nil))) (la_cons (lm_call (x := "_law_odd") (dvs := []) D__law_odd 0 (by decide) (hr.mono (by decide)) rfl tk (la_cons (lm_var 0) (la_cons (lm_c (.int 1) pe_int) la_nil))) (la_cons (lm_call (x := "_law_odd_rows") (dvs := []) D__law_odd_rows 0 (by decide) (hr.mono (by decide)) rfl tk (la_cons (lm_var 0) la_nil)) la_nil)))) (pg_tup rfl (pgs_cons (pg_name (i := 3) S__law_all_refused.nd rfl (Or.inr rfl)) (pgs_cons (pg_name (i := 4) S__law_all_refused.nd rfl (Or.inr rfl)) (pgs_cons (pg_name (i := 5) S__law_all_refused.nd rfl (Or.inr rfl)) pgs_nil)))) (sg_tup (sg_cons (sg_nm 3) (sg_cons (sg_nm 4) (sg_cons (sg_nm 5) sg_nil)))))
 (lss_cons (ls_asg (lm_tup (la_cons (lm_ix ix_seq s_ix (lm_lst (la_cons (lm_var 4) (la_cons (lm_c (.int 65) pe_int) (la_cons (lm_op op_pow s_pow (lm_c (.int 10) pe_int) (lm_c (.int 30) pe_int)) la_nil)))) (lm_call (x := "_law_next") (dvs := []) D__law_next 0 (by decide) (hr.mono (by decide)) rfl tk (la_cons (lm_var 0) (la_cons (lm_c (.int 3) pe_int) la_nil)))) (la_cons (lm_ix ix_seq s_ix (lm_lst (la_cons (lm_var 3) (la_cons (lm_c (.int 65) pe_int) (la_cons (lm_op op_pow s_pow (lm_c (.int 10) pe_int) (lm_c (.int 30) pe_int)) la_nil)))) (lm_call (x := "_law_next") (dvs := []) D__law_next 0 (by decide) (hr.mono (by decide)) rfl tk (la_cons (lm_var 0) (la_cons (lm_c (.int 3) pe_int) la_nil)))) la_nil))) (pg_tup rfl (pgs_cons (pg_name (i := 6) S__law_all_refused.nd rfl (Or.inr rfl)) (pgs_cons (pg_name (i := 7) S__law_all_refused.nd rfl (Or.inr rfl)) pgs_nil))) (sg_tup (sg_cons (sg_nm 6) (sg_cons (sg_nm 7) sg_nil))))
 (lss_cons (ls_set (i := 8) S__law_all_refused.nd rfl (Or.inr rfl) (lm_ix ix_seq s_ix (lm_lst (la_cons (lm_var 3) (la_cons (lm_c (.bl true) pe_bl) (la_cons (lm_c .non pe_non) (la_cons (lm_c (.str "1") pe_str) (la_cons (lm_lst (la_cons (lm_c (.int 1) pe_int) la_nil)) la_nil)))))) (lm_op op_addA s_add (lm_c (.int 1) pe_int) (lm_call (x := "_law_next") (dvs := []) D__law_next 0 (by decide) (hr.mono (by decide)) rfl tk (la_cons (lm_var 0) (la_cons (lm_c (.int 4) pe_int) la_nil))))))
 (lss_cons (ls_set (i := 9) S__law_all_refused.nd rfl (Or.inl rfl) (lm_lst (la_cons (lm_lam (e0 := e0) (j := 0) ML rfl (show LamX.LamS (defScope s__law_all_refused) _ from LamX.lamS_by (by decide +kernel)) rfl ((hT 0).trans rfl)) la_nil)))
 (lss_cons (ls_expr (lm_mL PySem.F.slot_list_append PySem.F.type_list_append mt_append s_append (lm_var 9) (la_cons (lm_lam (e0 := e0) (j := 1) ML rfl (show LamX.LamS (defScope s__law_all_refused) _ from LamX.lamS_by (by decide +kernel)) rfl ((hT 1).trans rfl)) la_nil)))
 (lss_cons (ls_expr (lm_mL PySem.F.slot_list_append PySem.F.type_list_append mt_append s_append (lm_var 9) (la_cons (lm_lam (e0 := e0) (j := 2) ML rfl (show LamX.LamS (defScope s__law_all_refused) _ from LamX.lamS_by (by decide +kernel)) rfl ((hT 2).trans rfl)) la_nil)))
 (lss_cons (ls_expr (lm_mL PySem.F.slot_list_append PySem.F.type_list_append mt_append s_append (lm_var 9) (la_cons (lm_lam (e0 := e0) (j := 3) ML rfl (show LamX.LamS (defScope s__law_all_refused) _ from LamX.lamS_by (by decide +kernel)) rfl ((hT 3).trans rfl)) la_nil)))
 (lss_cons (ls_expr (lm_mL PySem.F.slot_list_append PySem.F.type_list_append mt_append s_append (lm_var 9) (la_cons (lm_lam (e0 := e0) (j := 4) ML rfl (show LamX.LamS (defScope s__law_all_refused) _ from LamX.lamS_by (by decide +kernel)) rfl ((hT 4).trans rfl)) la_nil)))
 (lss_cons (ls_expr (lm_mL PySem.F.slot_list_append PySem.F.type_list_append mt_append s_append (lm_var 9) (la_cons (lm_lam (e0 := e0) (j := 5) ML rfl (show LamX.LamS (defScope s__law_all_refused) _ from LamX.lamS_by (by decide +kernel)) rfl ((hT 5).trans rfl)) la_nil)))
 (lss_cons (ls_expr (lm_mL PySem.F.slot_list_append PySem.F.type_list_append mt_append s_append (lm_var 9) (la_cons (lm_lam (e0 := e0) (j := 6) ML rfl (show LamX.LamS (defScope s__law_all_refused) _ from LamX.lamS_by (by decide +kernel)) rfl ((hT 6).trans rfl)) la_nil)))
 (lss_cons (ls_if (lt_cmp (op_neX hu) s_ne (lm_lcI (own := [("call", 10)]) rfl S__law_all_refused.nd (li_lst (lm_var 9)) (blkOk_by (own := [("call", 10)]) (N := N__law_all_refused) (sc := defScope s__law_all_refused) (by decide +kernel)) (sg_nm 10) (by decide) (fun _ _ _ _ _ _ _ IB hfp => ⟨(pg_name (i := 10) S__law_all_refused.nd rfl (Or.inl rfl)), lts_nil, (callV_blk (k := 4) (x := "_law_word") (es := []) IB (fun _ => rfl) hfp (DW__law_word (k := 4)) (hr.mono (by decide)) rfl AL.nil (lm_var 10) takes0 hL rfl (by decide) (by intro _ _ h; cases h; exact ⟨rfl, rfl⟩))⟩)) (lm_op op_mulA s_mulA (lm_lst (la_cons (lm_c (.str "rate") pe_str) la_nil)) (lm_c (.int 7) pe_int)))
 (lss_one (ls_ret (lm_c (.bl false) pe_bl)))
 lss_nil)
 (lss_cons (ls_set (i := 9) S__law_all_refused.nd rfl (Or.inl rfl) (lm_lst (la_cons (lm_lam (e0 := e0) (j := 7) ML rfl (show LamX.LamS (defScope s__law_all_refused) _ from LamX.lamS_by (by decide +kernel)) rfl ((hT 7).trans rfl)) la_nil)))
 (lss_cons (ls_expr (lm_mL PySem.F.slot_list_append PySem.F.type_list_append mt_append s_append (lm_var 9) (la_cons (lm_lam (e0 := e0) (j := 8) ML rfl (show LamX.LamS (defScope s__law_all_refused) _ from LamX.lamS_by (by decide +kernel)) rfl ((hT 8).trans rfl)) la_nil)))
 (lss_cons (ls_expr (lm_mL PySem.F.slot_list_append PySem.F.type_list_append mt_append s_append (lm_var 9) (la_cons (lm_lam (e0 := e0) (j := 9) ML rfl (show LamX.LamS (defScope s__law_all_refused) _ from LamX.lamS_by (by decide +kernel)) rfl ((hT 9).trans rfl)) la_nil)))
 (lss_cons (ls_expr (lm_mL PySem.F.slot_list_append PySem.F.type_list_append mt_append s_append (lm_var 9) (la_cons (lm_lam (e0 := e0) (j := 10) ML rfl (show LamX.LamS (defScope s__law_all_refused) _ from LamX.lamS_by (by decide +kernel)) rfl ((hT 10).trans rfl)) la_nil)))
 (lss_one (ls_ret (lm_cmp (op_eqX hu) s_eq (lm_lcI (own := [("call", 10)]) rfl S__law_all_refused.nd (li_lst (lm_var 9)) (blkOk_by (own := [("call", 10)]) (N := N__law_all_refused) (sc := defScope s__law_all_refused) (by decide +kernel)) (sg_nm 10) (by decide) (fun _ _ _ _ _ _ _ IB hfp => ⟨(pg_name (i := 10) S__law_all_refused.nd rfl (Or.inl rfl)), lts_nil, (callV_blk (k := 4) (x := "_law_word") (es := []) IB (fun _ => rfl) hfp (DW__law_word (k := 4)) (hr.mono (by decide)) rfl AL.nil (lm_var 10) takes0 hL rfl (by decide) (by intro _ _ h; cases h; exact ⟨rfl, rfl⟩))⟩)) (lm_lst (la_cons (lm_c (.str "cycle") pe_str) (la_cons (lm_c (.str "reading") pe_str) (la_cons (lm_c (.str "width") pe_str) (la_cons (lm_c (.str "reading") pe_str) la_nil))))))))))))))))))))))))
abbrev s__law_named : Stmt := topS 39
abbrev N__law_named : List Str := ["source", "pair", "count", "rows", "kept", "pairs", "turn", "here", "there"]
theorem S__law_named : FnScope N__law_named ["source"] (defScope s__law_named) := ⟨rfl, rfl, rfl, by decide +kernel, rfl, by decide +kernel, by decide +kernel⟩
theorem ok__law_named (T : Txt K mg c) (F : FunD K "_law_named" "_law_named" (defArgs s__law_named) (defBody s__law_named) (defScope s__law_named) [] [] f fd) (hm : mg "_law_named" = some (.ref f)) (D__law_next : ∀ [LamT], Df P w K mg base 2 "_law_next" 2 [] (m_law_next c)) (D_best_rate : ∀ [LamT], Df P w K mg base 2 "best_rate" 3 [] (m_best_rate c)) (D_first_cycle : ∀ [LamT], Df P w K mg base 4 "first_cycle" 2 [] (m_first_cycle c)) (D_longest_span : ∀ [LamT], Df P w K mg base 4 "longest_span" 2 [] (m_longest_span c)) (D_rate_reading : ∀ [LamT], Df P w K mg base 4 "rate_reading" 2 [] (m_rate_reading c)) (D_rates_seen : ∀ [LamT], Df P w K mg base 3 "rates_seen" 2 [] (m_rates_seen c)) (DK_best_rate : ∀ [LamT], DfK P w K mg base 2 "best_rate" 3 ["most", "units", "frequency"] (pick [2, 1, 0]) (m_best_rate c)) (DK_first_cycle : ∀ [LamT], DfK P w K mg base 4 "first_cycle" 2 ["reading", "rate"] (pick [1, 0]) (m_first_cycle c)) (DK_longest_span : ∀ [LamT], DfK P w K mg base 4 "longest_span" 2 ["rate", "width"] (pick [1, 0]) (m_longest_span c)) (DK_rate_reading : ∀ [LamT], DfK P w K mg base 4 "rate_reading" 2 ["cycles", "rate"] (pick [1, 0]) (m_rate_reading c)) (DK_rates_seen : ∀ [LamT], DfK P w K mg base 3 "rates_seen" 2 ["seen", "shift"] (pick [1, 0]) (m_rates_seen c)) : ∀ [LamT], Df P w K mg base 5 "_law_named" 1 [] (m_law_named c) := by
 intro I
 obtain rfl := T.kk
 exact df0 (N := N__law_named) (mb := b_law_named c) F S__law_named hm (fun _ _ _ _ _ _ us hl => match us, hl with | [_], _ => rfl) fun cdv A outer s H E hr tk hp hu =>
 (lss_cons (ls_par (i := 1) (j := 2) (fun h => ps_par (i := 1) (j := 2) rfl S__law_named.nd rfl rfl (by decide) rfl rfl h rfl) (la_cons (lm_tup (la_cons (lm_op op_addA s_add (lm_c (.int 1) pe_int) (lm_call (x := "_law_next") (dvs := []) D__law_next 0 (by decide) (hr.mono (by decide)) rfl tk (la_cons (lm_var 0) (la_cons (lm_c (.int 99) pe_int) la_nil)))) (la_cons (lm_call (x := "_law_next") (dvs := []) D__law_next 0 (by decide) (hr.mono (by decide)) rfl tk (la_cons (lm_var 0) (la_cons (lm_c (.int 65) pe_int) la_nil))) la_nil))) (la_cons (lm_call (x := "_law_next") (dvs := []) D__law_next 0 (by decide) (hr.mono (by decide)) rfl tk (la_cons (lm_var 0) (la_cons (lm_op op_pow s_pow (lm_c (.int 10) pe_int) (lm_c (.int 9) pe_int)) la_nil))) la_nil)))
 (lss_cons (ls_lc (own := [("turn", 6)]) (i := 3) rfl S__law_named.nd rfl rfl (sw_true rfl rfl rfl (by decide +kernel)) (li_rng1 rfl T.b_range (la_cons (lm_op op_addA s_add (lm_c (.int 1) pe_int) (lm_call (x := "_law_next") (dvs := []) D__law_next 0 (by decide) (hr.mono (by decide)) rfl tk (la_cons (lm_var 0) (la_cons (lm_c (.int 4) pe_int) la_nil)))) la_nil)) (blkOk_by (own := [("turn", 6)]) (N := N__law_named) (sc := defScope s__law_named) (by decide +kernel)) (sg_nm 6) (by decide) (fun _ _ _ _ _ => (pg_name (i := 6) S__law_named.nd rfl (Or.inl rfl))) (fun _ _ _ _ _ => lts_nil) (fun _ _ _ _ _ => (lm_tup (la_cons (lm_call (x := "_law_next") (dvs := []) D__law_next 0 (by decide) (hr.mono (by decide)) rfl takes0 (la_cons (lm_var 0) (la_cons (lm_c (.int 9) pe_int) la_nil))) (la_cons (lm_call (x := "_law_next") (dvs := []) D__law_next 0 (by decide) (hr.mono (by decide)) rfl takes0 (la_cons (lm_var 0) (la_cons (lm_c (.int 9) pe_int) la_nil))) la_nil)))))
 (lss_cons (ls_set (i := 4) S__law_named.nd rfl (Or.inl rfl) (lm_callTy call_list_of s_list rfl T.b_list (by decide +kernel) (la_cons (lm_var 3) la_nil)))
 (lss_cons (ls_set (i := 5) S__law_named.nd rfl (Or.inl rfl) (lm_lst (la_cons (lm_tup (la_cons (lm_callK (x := "rate_reading") DK_rate_reading (hr.mono (by decide)) rfl tk (lk_cons (lm_var 2) (lk_cons (lm_var 1) lk_nil))) (la_cons (lm_call (x := "rate_reading") (dvs := []) D_rate_reading 0 (by decide) (hr.mono (by decide)) rfl tk (la_cons (lm_var 1) (la_cons (lm_var 2) la_nil))) la_nil))) la_nil)))
 (lss_cons (ls_expr (lm_mL PySem.F.slot_list_append PySem.F.type_list_append mt_append s_append (lm_var 5) (la_cons (lm_tup (la_cons (lm_callK (x := "first_cycle") DK_first_cycle (hr.mono (by decide)) rfl tk (lk_cons (lm_var 2) (lk_cons (lm_var 1) lk_nil))) (la_cons (lm_call (x := "first_cycle") (dvs := []) D_first_cycle 0 (by decide) (hr.mono (by decide)) rfl tk (la_cons (lm_var 1) (la_cons (lm_var 2) la_nil))) la_nil))) la_nil)))
 (lss_cons (ls_expr (lm_mL PySem.F.slot_list_append PySem.F.type_list_append mt_append s_append (lm_var 5) (la_cons (lm_tup (la_cons (lm_callK (x := "best_rate") DK_best_rate (hr.mono (by decide)) rfl tk (lk_cons (lm_op op_addA s_add (lm_var 2) (lm_c (.int 1) pe_int)) (lk_cons (lm_c (.int 7) pe_int) (lk_cons (lm_c (.int 3) pe_int) lk_nil)))) (la_cons (lm_call (x := "best_rate") (dvs := []) D_best_rate 0 (by decide) (hr.mono (by decide)) rfl tk (la_cons (lm_c (.int 3) pe_int) (la_cons (lm_c (.int 7) pe_int) (la_cons (lm_op op_addA s_add (lm_var 2) (lm_c (.int 1) pe_int)) la_nil)))) la_nil))) la_nil)))
 (lss_cons (ls_expr (lm_mL PySem.F.slot_list_append PySem.F.type_list_append mt_append s_append (lm_var 5) (la_cons (lm_tup (la_cons (lm_callK (x := "longest_span") DK_longest_span (hr.mono (by decide)) rfl tk (lk_cons (lm_var 1) (lk_cons (lm_c (.int 9) pe_int) lk_nil))) (la_cons (lm_call (x := "longest_span") (dvs := []) D_longest_span 0 (by decide) (hr.mono (by decide)) rfl tk (la_cons (lm_c (.int 9) pe_int) (la_cons (lm_var 1) la_nil))) la_nil))) la_nil)))
 (lss_cons (ls_expr (lm_mL PySem.F.slot_list_append PySem.F.type_list_append mt_append s_append (lm_var 5) (la_cons (lm_tup (la_cons (lm_callK (x := "rates_seen") DK_rates_seen (hr.mono (by decide)) rfl tk (lk_cons (lm_var 3) (lk_cons (lm_c (.int 2) pe_int) lk_nil))) (la_cons (lm_call (x := "rates_seen") (dvs := []) D_rates_seen 0 (by decide) (hr.mono (by decide)) rfl tk (la_cons (lm_c (.int 2) pe_int) (la_cons (lm_var 4) la_nil))) la_nil))) la_nil)))
 (lss_one (ls_ret (lm_and (lm_callB (cr_all rfl) s_all rfl T.b_all (by decide +kernel) (la_cons (lm_lc (own := [("here", 7), ("there", 8)]) rfl S__law_named.nd (li_lst (lm_var 5)) (blkOk_by (own := [("here", 7), ("there", 8)]) (N := N__law_named) (sc := defScope s__law_named) (by decide +kernel)) (sg_tup (sg_cons (sg_nm 7) (sg_cons (sg_nm 8) sg_nil))) (by decide) (fun _ _ _ _ _ => (pg_tup rfl (pgs_cons (pg_name (i := 7) S__law_named.nd rfl (Or.inl rfl)) (pgs_cons (pg_name (i := 8) S__law_named.nd rfl (Or.inl rfl)) pgs_nil)))) (fun _ _ _ _ _ => lts_nil) (fun _ _ _ _ _ => (lm_cmp (op_eqX hu) s_eq (lm_var 7) (lm_var 8)))) la_nil)) (lm_one (lm_cmp (op_eqX hu) s_eq (lm_var 3) (lm_var 4))))))))))))))
abbrev s__law_cell_at : Stmt := topS 30
abbrev N__law_cell_at : List Str := ["script", "k"]
theorem S__law_cell_at : FnScope N__law_cell_at ["script", "k"] (defScope s__law_cell_at) := ⟨rfl, rfl, rfl, by decide +kernel, rfl, by decide +kernel, by decide +kernel⟩
theorem ok__law_cell_at (T : Txt K mg c) (F : FunD K "_law_cell_at" "_law_cell_at" (defArgs s__law_cell_at) (defBody s__law_cell_at) (defScope s__law_cell_at) [] [] f fd) (hm : mg "_law_cell_at" = some (.ref f))  : ∀ [LamT], Df P w K mg base 1 "_law_cell_at" 2 [] (m_law_cell_at c) := by
 intro I
 obtain rfl := T.kk
 exact df0 (N := N__law_cell_at) (mb := b_law_cell_at c) F S__law_cell_at hm (fun _ _ _ _ _ _ us hl => match us, hl with | [_, _], _ => rfl) fun cdv A outer s H E hr tk hp hu =>
 (lss_cons (ls_if (lt_cmp op_lt s_lt (lm_var 1) (lm_callB call_lenA s_len rfl T.b_len (by decide +kernel) (la_cons (lm_var 0) la_nil)))
 (lss_one (ls_ret (lm_ix ix_seq s_ix (lm_var 0) (lm_var 1))))
 lss_nil)
 (lss_one (ls_ret (lm_c (.int 0) pe_int))))
abbrev s__law_source : Stmt := topS 32
abbrev N__law_source : List Str := ["script", "k", "cell"]
theorem S__law_source : FnScope N__law_source ["script", "k"] (defScope s__law_source) := ⟨rfl, rfl, rfl, by decide +kernel, rfl, by decide +kernel, by decide +kernel⟩
theorem ok__law_source (T : Txt K mg c) (F : FunD K "_law_source" "_law_source" (defArgs s__law_source) (defBody s__law_source) (defScope s__law_source) [] [] f fd) (hm : mg "_law_source" = some (.ref f)) (D__law_cell_at : ∀ [LamT], Df P w K mg base 1 "_law_cell_at" 2 [] (m_law_cell_at c)) (D__law_mixed : ∀ [LamT], Df P w K mg base 1 "_law_mixed" 2 [] (m_law_mixed c)) : ∀ [LamT], Df P w K mg base 2 "_law_source" 2 [] (m_law_source c) := by
 intro I
 obtain rfl := T.kk
 exact df0 (N := N__law_source) (mb := b_law_source c) F S__law_source hm (fun _ _ _ _ _ _ us hl => match us, hl with | [_, _], _ => rfl) fun cdv A outer s H E hr tk hp hu =>
 (lss_cons (ls_if (lt_cmp op_lt s_lt (lm_var 1) (lm_callB call_lenA s_len rfl T.b_len (by decide +kernel) (la_cons (lm_var 0) la_nil)))
 (lss_one (ls_ret (lm_lst (la_cons (lm_ix ix_seq s_ix (lm_var 0) (lm_var 1)) (la_cons (lm_ix ix_seq s_ix (lm_var 0) (lm_var 1)) (la_cons (lm_c (.int 0) pe_int) la_nil))))))
 lss_nil)
 (lss_cons (ls_set (i := 2) S__law_source.nd rfl (Or.inl rfl) (lm_call (x := "_law_mixed") (dvs := []) D__law_mixed 0 (by decide) (hr.mono (by decide)) rfl tk (la_cons (lm_call (x := "_law_cell_at") (dvs := []) D__law_cell_at 0 (by decide) (hr.mono (by decide)) rfl tk (la_cons (lm_var 0) (la_cons (lm_c (.int 0) pe_int) la_nil))) (la_cons (lm_op op_addA s_add (lm_c (.int 1000) pe_int) (lm_var 1)) la_nil))))
 (lss_one (ls_ret (lm_lst (la_cons (lm_var 2) (la_cons (lm_var 2) (la_cons (lm_c (.int 0) pe_int) la_nil))))))))
abbrev s_law : Stmt := topS 40
abbrev N_law : List Str := ["script", "k", "source", "turn"]
theorem S_law : FnScope N_law ["script"] (defScope s_law) := ⟨rfl, rfl, rfl, by decide +kernel, rfl, by decide +kernel, by decide +kernel⟩
theorem ok_law (T : Txt K mg c) (F : FunD K "law" "law" (defArgs s_law) (defBody s_law) (defScope s_law) [] [] f fd) (D__law_all_refused : ∀ [LamT], Df P w K mg base 7 "_law_all_refused" 1 [] (m_law_all_refused c)) (D__law_named : ∀ [LamT], Df P w K mg base 5 "_law_named" 1 [] (m_law_named c)) (D__law_source : ∀ [LamT], Df P w K mg base 2 "_law_source" 2 [] (m_law_source c)) : ∀ [LamT], FnOk P w K mg base (L2.CX P w) 8 f fd ["script"] (spM K 1 (m_law c)) := by
 intro I
 obtain rfl := T.kk
 exact df_fn2 (N := N_law) (ps := ["script"]) (k := 7) (mb := b_law c) F S_law fun cdv A outer s H E hr tk hp hu =>
 (lss_cons (ls_for hp rfl (li_rng1 rfl T.b_range (la_cons (lm_callB (call_min2 rfl) s_min2 rfl T.b_min (by decide +kernel) (la_cons (lm_c (.int 4) pe_int) (la_cons (lm_callB (call_max2 rfl) s_max2 rfl T.b_max (by decide +kernel) (la_cons (lm_c (.int 1) pe_int) (la_cons (lm_callB call_lenA s_len rfl T.b_len (by decide +kernel) (la_cons (lm_var 0) la_nil)) la_nil))) la_nil))) la_nil)) (pg_name (i := 1) S_law.nd rfl (Or.inl rfl)) (sg_nm 1)
 (lss_cons (ls_set (i := 2) S_law.nd rfl (Or.inl rfl) (lm_call (x := "_law_source") (dvs := []) D__law_source 0 (by decide) (hr.mono (by decide)) rfl tk (la_cons (lm_var 0) (la_cons (lm_var 1) la_nil))))
 (lss_one (ls_for hp rfl (li_rng1 rfl T.b_range (la_cons (lm_c (.int 4) pe_int) la_nil)) (pg_name (i := 3) S_law.nd rfl (Or.inl rfl)) (sg_nm 3)
 (lss_one (ls_if (PW.pt (lw_or (lt_not (lt_val (lm_call (x := "_law_all_refused") (dvs := []) D__law_all_refused 0 (by decide) (hr.mono (by decide)) rfl tk (la_cons (lm_var 2) la_nil)))) (lw_or1 (lt_not (lt_val (lm_call (x := "_law_named") (dvs := []) D__law_named 0 (by decide) (hr.mono (by decide)) rfl tk (la_cons (lm_var 2) la_nil)))))))
 (lss_one (ls_ret (lm_c (.bl false) pe_bl)))
 lss_nil))))))
 (lss_one (ls_ret (lm_c (.bl true) pe_bl))))
end
end L3
namespace L3
open PySem PySem.Spec PyProof.Rows L2

theorem all_mk {l : PySem.W.OpenLaw} {w : World} {K : PySem.W.Frag} {h : Heap} {mg : Str → Option Value} {fa : Addr} (X : K.In h) (G : h.Ns mainGlobals mg) (hfa : mg "law" = some (.ref fa)) {f_law_mixed f_law_next f_law_odd f_law_odd_pair f_law_odd_rows f_law_word f_is_whole f_power f_best_rate f_is_mult f_is_shift f_check_rate f_round_up f_first_cycle f_check_width f_longest_span f_check_cycle f_rate_reading f_is_seen f_narrowed f_rates_seen f_law_all_refused f_law_named f_law_cell_at f_law_source f_law C_KernelError C_NoCycle C_NoLine C_NoLooks C_NoRate C_NoReading C_NoWidth : Addr}
 {od_law_mixed an_law_mixed : Option Addr} {sl_law_mixed : Array (Option Value)} {oc_law_mixed kV_law_mixed dc_law_mixed pm_law_mixed cd_law_mixed ct_law_mixed : Value} {od_law_next an_law_next : Option Addr} {sl_law_next : Array (Option Value)} {oc_law_next kV_law_next dc_law_next pm_law_next cd_law_next ct_law_next : Value} {od_law_odd an_law_odd : Option Addr} {sl_law_odd : Array (Option Value)} {oc_law_odd kV_law_odd dc_law_odd pm_law_odd cd_law_odd ct_law_odd : Value} {od_law_odd_pair an_law_odd_pair : Option Addr} {sl_law_odd_pair : Array (Option Value)} {oc_law_odd_pair kV_law_odd_pair dc_law_odd_pair pm_law_odd_pair cd_law_odd_pair ct_law_odd_pair : Value} {od_law_odd_rows an_law_odd_rows : Option Addr} {sl_law_odd_rows : Array (Option Value)} {oc_law_odd_rows kV_law_odd_rows dc_law_odd_rows pm_law_odd_rows cd_law_odd_rows ct_law_odd_rows : Value} {od_law_word an_law_word : Option Addr} {sl_law_word : Array (Option Value)} {oc_law_word kV_law_word dc_law_word pm_law_word cd_law_word ct_law_word : Value} {od_is_whole an_is_whole : Option Addr} {sl_is_whole : Array (Option Value)} {oc_is_whole kV_is_whole dc_is_whole pm_is_whole cd_is_whole ct_is_whole : Value} {T_is_whole : Addr} {o_is_whole : Obj} {n_is_whole : Nat} {d0_is_whole : Value} {od_power an_power : Option Addr} {sl_power : Array (Option Value)} {oc_power kV_power dc_power pm_power cd_power ct_power : Value} {od_best_rate an_best_rate : Option Addr} {sl_best_rate : Array (Option Value)} {oc_best_rate kV_best_rate dc_best_rate pm_best_rate cd_best_rate ct_best_rate : Value} {od_is_mult an_is_mult : Option Addr} {sl_is_mult : Array (Option Value)} {oc_is_mult kV_is_mult dc_is_mult pm_is_mult cd_is_mult ct_is_mult : Value} {od_is_shift an_is_shift : Option Addr} {sl_is_shift : Array (Option Value)} {oc_is_shift kV_is_shift dc_is_shift pm_is_shift cd_is_shift ct_is_shift : Value} {od_check_rate an_check_rate : Option Addr} {sl_check_rate : Array (Option Value)} {oc_check_rate kV_check_rate dc_check_rate pm_check_rate cd_check_rate ct_check_rate : Value} {od_round_up an_round_up : Option Addr} {sl_round_up : Array (Option Value)} {oc_round_up kV_round_up dc_round_up pm_round_up cd_round_up ct_round_up : Value} {od_first_cycle an_first_cycle : Option Addr} {sl_first_cycle : Array (Option Value)} {oc_first_cycle kV_first_cycle dc_first_cycle pm_first_cycle cd_first_cycle ct_first_cycle : Value} {od_check_width an_check_width : Option Addr} {sl_check_width : Array (Option Value)} {oc_check_width kV_check_width dc_check_width pm_check_width cd_check_width ct_check_width : Value} {od_longest_span an_longest_span : Option Addr} {sl_longest_span : Array (Option Value)} {oc_longest_span kV_longest_span dc_longest_span pm_longest_span cd_longest_span ct_longest_span : Value} {od_check_cycle an_check_cycle : Option Addr} {sl_check_cycle : Array (Option Value)} {oc_check_cycle kV_check_cycle dc_check_cycle pm_check_cycle cd_check_cycle ct_check_cycle : Value} {T_check_cycle : Addr} {o_check_cycle : Obj} {n_check_cycle : Nat} {d0_check_cycle : Value} {od_rate_reading an_rate_reading : Option Addr} {sl_rate_reading : Array (Option Value)} {oc_rate_reading kV_rate_reading dc_rate_reading pm_rate_reading cd_rate_reading ct_rate_reading : Value} {od_is_seen an_is_seen : Option Addr} {sl_is_seen : Array (Option Value)} {oc_is_seen kV_is_seen dc_is_seen pm_is_seen cd_is_seen ct_is_seen : Value} {od_narrowed an_narrowed : Option Addr} {sl_narrowed : Array (Option Value)} {oc_narrowed kV_narrowed dc_narrowed pm_narrowed cd_narrowed ct_narrowed : Value} {od_rates_seen an_rates_seen : Option Addr} {sl_rates_seen : Array (Option Value)} {oc_rates_seen kV_rates_seen dc_rates_seen pm_rates_seen cd_rates_seen ct_rates_seen : Value} {od_law_all_refused an_law_all_refused : Option Addr} {sl_law_all_refused : Array (Option Value)} {oc_law_all_refused kV_law_all_refused dc_law_all_refused pm_law_all_refused ct_law_all_refused : Value} {cM_law_all_refused PM_law_all_refused : Addr} {od_law_named an_law_named : Option Addr} {sl_law_named : Array (Option Value)} {oc_law_named kV_law_named dc_law_named pm_law_named cd_law_named ct_law_named : Value} {od_law_cell_at an_law_cell_at : Option Addr} {sl_law_cell_at : Array (Option Value)} {oc_law_cell_at kV_law_cell_at dc_law_cell_at pm_law_cell_at cd_law_cell_at ct_law_cell_at : Value} {od_law_source an_law_source : Option Addr} {sl_law_source : Array (Option Value)} {oc_law_source kV_law_source dc_law_source pm_law_source cd_law_source ct_law_source : Value} {od_law an_law : Option Addr} {sl_law : Array (Option Value)} {oc_law kV_law dc_law pm_law cd_law ct_law : Value} {t_MOST_BEST : Tok} {t_MOST_SHIFT : Tok} {t_MOST_WIDTH : Tok}
(a_law_mixed : PySem.W.nsIn K mainGlobals "_law_mixed" = some (some (.ref f_law_mixed)))
 (l_law_mixed : K.lookup f_law_mixed = some ⟨oc_law_mixed, od_law_mixed, .func (PySem.W.fnOf "_law_mixed" "_law_mixed" (defArgs s__law_mixed) (defBody s__law_mixed) (defScope s__law_mixed) .none kV_law_mixed dc_law_mixed pm_law_mixed an_law_mixed cd_law_mixed ct_law_mixed), sl_law_mixed⟩)
 (c_law_mixed : PySem.W.codeIn K cd_law_mixed "_law_mixed" = true)
 (k_law_mixed : PySem.W.keepIn K (.ref f_law_mixed) = true)
 (a_law_next : PySem.W.nsIn K mainGlobals "_law_next" = some (some (.ref f_law_next)))
 (l_law_next : K.lookup f_law_next = some ⟨oc_law_next, od_law_next, .func (PySem.W.fnOf "_law_next" "_law_next" (defArgs s__law_next) (defBody s__law_next) (defScope s__law_next) .none kV_law_next dc_law_next pm_law_next an_law_next cd_law_next ct_law_next), sl_law_next⟩)
 (c_law_next : PySem.W.codeIn K cd_law_next "_law_next" = true)
 (k_law_next : PySem.W.keepIn K (.ref f_law_next) = true)
 (a_law_odd : PySem.W.nsIn K mainGlobals "_law_odd" = some (some (.ref f_law_odd)))
 (l_law_odd : K.lookup f_law_odd = some ⟨oc_law_odd, od_law_odd, .func (PySem.W.fnOf "_law_odd" "_law_odd" (defArgs s__law_odd) (defBody s__law_odd) (defScope s__law_odd) .none kV_law_odd dc_law_odd pm_law_odd an_law_odd cd_law_odd ct_law_odd), sl_law_odd⟩)
 (c_law_odd : PySem.W.codeIn K cd_law_odd "_law_odd" = true)
 (k_law_odd : PySem.W.keepIn K (.ref f_law_odd) = true)
 (a_law_odd_pair : PySem.W.nsIn K mainGlobals "_law_odd_pair" = some (some (.ref f_law_odd_pair)))
 (l_law_odd_pair : K.lookup f_law_odd_pair = some ⟨oc_law_odd_pair, od_law_odd_pair, .func (PySem.W.fnOf "_law_odd_pair" "_law_odd_pair" (defArgs s__law_odd_pair) (defBody s__law_odd_pair) (defScope s__law_odd_pair) .none kV_law_odd_pair dc_law_odd_pair pm_law_odd_pair an_law_odd_pair cd_law_odd_pair ct_law_odd_pair), sl_law_odd_pair⟩)
 (c_law_odd_pair : PySem.W.codeIn K cd_law_odd_pair "_law_odd_pair" = true)
 (k_law_odd_pair : PySem.W.keepIn K (.ref f_law_odd_pair) = true)
 (a_law_odd_rows : PySem.W.nsIn K mainGlobals "_law_odd_rows" = some (some (.ref f_law_odd_rows)))
 (l_law_odd_rows : K.lookup f_law_odd_rows = some ⟨oc_law_odd_rows, od_law_odd_rows, .func (PySem.W.fnOf "_law_odd_rows" "_law_odd_rows" (defArgs s__law_odd_rows) (defBody s__law_odd_rows) (defScope s__law_odd_rows) .none kV_law_odd_rows dc_law_odd_rows pm_law_odd_rows an_law_odd_rows cd_law_odd_rows ct_law_odd_rows), sl_law_odd_rows⟩)
 (c_law_odd_rows : PySem.W.codeIn K cd_law_odd_rows "_law_odd_rows" = true)
 (k_law_odd_rows : PySem.W.keepIn K (.ref f_law_odd_rows) = true)
 (a_law_word : PySem.W.nsIn K mainGlobals "_law_word" = some (some (.ref f_law_word)))
 (l_law_word : K.lookup f_law_word = some ⟨oc_law_word, od_law_word, .func (PySem.W.fnOf "_law_word" "_law_word" (defArgs s__law_word) (defBody s__law_word) (defScope s__law_word) .none kV_law_word dc_law_word pm_law_word an_law_word cd_law_word ct_law_word), sl_law_word⟩)
 (c_law_word : PySem.W.codeIn K cd_law_word "_law_word" = true)
 (k_law_word : PySem.W.keepIn K (.ref f_law_word) = true)
 (a_is_whole : PySem.W.nsIn K mainGlobals "is_whole" = some (some (.ref f_is_whole)))
 (l_is_whole : K.lookup f_is_whole = some ⟨oc_is_whole, od_is_whole, .func (PySem.W.fnOf "is_whole" "is_whole" (defArgs s_is_whole) (defBody s_is_whole) (defScope s_is_whole) (.ref T_is_whole) kV_is_whole dc_is_whole pm_is_whole an_is_whole cd_is_whole ct_is_whole), sl_is_whole⟩)
 (c_is_whole : PySem.W.codeIn K cd_is_whole "is_whole" = true)
 (k_is_whole : PySem.W.keepIn K (.ref f_is_whole) = true)
 (t_is_whole : K.lookup T_is_whole = some o_is_whole)
 (u_is_whole : o_is_whole.data = .seq [d0_is_whole].toArray n_is_whole)
 (v_is_whole : Vals [V.non] [d0_is_whole])
 (a_power : PySem.W.nsIn K mainGlobals "power" = some (some (.ref f_power)))
 (l_power : K.lookup f_power = some ⟨oc_power, od_power, .func (PySem.W.fnOf "power" "power" (defArgs s_power) (defBody s_power) (defScope s_power) .none kV_power dc_power pm_power an_power cd_power ct_power), sl_power⟩)
 (c_power : PySem.W.codeIn K cd_power "power" = true)
 (k_power : PySem.W.keepIn K (.ref f_power) = true)
 (a_best_rate : PySem.W.nsIn K mainGlobals "best_rate" = some (some (.ref f_best_rate)))
 (l_best_rate : K.lookup f_best_rate = some ⟨oc_best_rate, od_best_rate, .func (PySem.W.fnOf "best_rate" "best_rate" (defArgs s_best_rate) (defBody s_best_rate) (defScope s_best_rate) .none kV_best_rate dc_best_rate pm_best_rate an_best_rate cd_best_rate ct_best_rate), sl_best_rate⟩)
 (c_best_rate : PySem.W.codeIn K cd_best_rate "best_rate" = true)
 (k_best_rate : PySem.W.keepIn K (.ref f_best_rate) = true)
 (a_is_mult : PySem.W.nsIn K mainGlobals "is_mult" = some (some (.ref f_is_mult)))
 (l_is_mult : K.lookup f_is_mult = some ⟨oc_is_mult, od_is_mult, .func (PySem.W.fnOf "is_mult" "is_mult" (defArgs s_is_mult) (defBody s_is_mult) (defScope s_is_mult) .none kV_is_mult dc_is_mult pm_is_mult an_is_mult cd_is_mult ct_is_mult), sl_is_mult⟩)
 (c_is_mult : PySem.W.codeIn K cd_is_mult "is_mult" = true)
 (k_is_mult : PySem.W.keepIn K (.ref f_is_mult) = true)
 (a_is_shift : PySem.W.nsIn K mainGlobals "is_shift" = some (some (.ref f_is_shift)))
 (l_is_shift : K.lookup f_is_shift = some ⟨oc_is_shift, od_is_shift, .func (PySem.W.fnOf "is_shift" "is_shift" (defArgs s_is_shift) (defBody s_is_shift) (defScope s_is_shift) .none kV_is_shift dc_is_shift pm_is_shift an_is_shift cd_is_shift ct_is_shift), sl_is_shift⟩)
 (c_is_shift : PySem.W.codeIn K cd_is_shift "is_shift" = true)
 (k_is_shift : PySem.W.keepIn K (.ref f_is_shift) = true)
 (a_check_rate : PySem.W.nsIn K mainGlobals "check_rate" = some (some (.ref f_check_rate)))
 (l_check_rate : K.lookup f_check_rate = some ⟨oc_check_rate, od_check_rate, .func (PySem.W.fnOf "check_rate" "check_rate" (defArgs s_check_rate) (defBody s_check_rate) (defScope s_check_rate) .none kV_check_rate dc_check_rate pm_check_rate an_check_rate cd_check_rate ct_check_rate), sl_check_rate⟩)
 (c_check_rate : PySem.W.codeIn K cd_check_rate "check_rate" = true)
 (k_check_rate : PySem.W.keepIn K (.ref f_check_rate) = true)
 (a_round_up : PySem.W.nsIn K mainGlobals "round_up" = some (some (.ref f_round_up)))
 (l_round_up : K.lookup f_round_up = some ⟨oc_round_up, od_round_up, .func (PySem.W.fnOf "round_up" "round_up" (defArgs s_round_up) (defBody s_round_up) (defScope s_round_up) .none kV_round_up dc_round_up pm_round_up an_round_up cd_round_up ct_round_up), sl_round_up⟩)
 (c_round_up : PySem.W.codeIn K cd_round_up "round_up" = true)
 (k_round_up : PySem.W.keepIn K (.ref f_round_up) = true)
 (a_first_cycle : PySem.W.nsIn K mainGlobals "first_cycle" = some (some (.ref f_first_cycle)))
 (l_first_cycle : K.lookup f_first_cycle = some ⟨oc_first_cycle, od_first_cycle, .func (PySem.W.fnOf "first_cycle" "first_cycle" (defArgs s_first_cycle) (defBody s_first_cycle) (defScope s_first_cycle) .none kV_first_cycle dc_first_cycle pm_first_cycle an_first_cycle cd_first_cycle ct_first_cycle), sl_first_cycle⟩)
 (c_first_cycle : PySem.W.codeIn K cd_first_cycle "first_cycle" = true)
 (k_first_cycle : PySem.W.keepIn K (.ref f_first_cycle) = true)
 (a_check_width : PySem.W.nsIn K mainGlobals "check_width" = some (some (.ref f_check_width)))
 (l_check_width : K.lookup f_check_width = some ⟨oc_check_width, od_check_width, .func (PySem.W.fnOf "check_width" "check_width" (defArgs s_check_width) (defBody s_check_width) (defScope s_check_width) .none kV_check_width dc_check_width pm_check_width an_check_width cd_check_width ct_check_width), sl_check_width⟩)
 (c_check_width : PySem.W.codeIn K cd_check_width "check_width" = true)
 (k_check_width : PySem.W.keepIn K (.ref f_check_width) = true)
 (a_longest_span : PySem.W.nsIn K mainGlobals "longest_span" = some (some (.ref f_longest_span)))
 (l_longest_span : K.lookup f_longest_span = some ⟨oc_longest_span, od_longest_span, .func (PySem.W.fnOf "longest_span" "longest_span" (defArgs s_longest_span) (defBody s_longest_span) (defScope s_longest_span) .none kV_longest_span dc_longest_span pm_longest_span an_longest_span cd_longest_span ct_longest_span), sl_longest_span⟩)
 (c_longest_span : PySem.W.codeIn K cd_longest_span "longest_span" = true)
 (k_longest_span : PySem.W.keepIn K (.ref f_longest_span) = true)
 (a_check_cycle : PySem.W.nsIn K mainGlobals "check_cycle" = some (some (.ref f_check_cycle)))
 (l_check_cycle : K.lookup f_check_cycle = some ⟨oc_check_cycle, od_check_cycle, .func (PySem.W.fnOf "check_cycle" "check_cycle" (defArgs s_check_cycle) (defBody s_check_cycle) (defScope s_check_cycle) (.ref T_check_cycle) kV_check_cycle dc_check_cycle pm_check_cycle an_check_cycle cd_check_cycle ct_check_cycle), sl_check_cycle⟩)
 (c_check_cycle : PySem.W.codeIn K cd_check_cycle "check_cycle" = true)
 (k_check_cycle : PySem.W.keepIn K (.ref f_check_cycle) = true)
 (t_check_cycle : K.lookup T_check_cycle = some o_check_cycle)
 (u_check_cycle : o_check_cycle.data = .seq [d0_check_cycle].toArray n_check_cycle)
 (v_check_cycle : Vals [(V.int 0)] [d0_check_cycle])
 (a_rate_reading : PySem.W.nsIn K mainGlobals "rate_reading" = some (some (.ref f_rate_reading)))
 (l_rate_reading : K.lookup f_rate_reading = some ⟨oc_rate_reading, od_rate_reading, .func (PySem.W.fnOf "rate_reading" "rate_reading" (defArgs s_rate_reading) (defBody s_rate_reading) (defScope s_rate_reading) .none kV_rate_reading dc_rate_reading pm_rate_reading an_rate_reading cd_rate_reading ct_rate_reading), sl_rate_reading⟩)
 (c_rate_reading : PySem.W.codeIn K cd_rate_reading "rate_reading" = true)
 (k_rate_reading : PySem.W.keepIn K (.ref f_rate_reading) = true)
 (a_is_seen : PySem.W.nsIn K mainGlobals "is_seen" = some (some (.ref f_is_seen)))
 (l_is_seen : K.lookup f_is_seen = some ⟨oc_is_seen, od_is_seen, .func (PySem.W.fnOf "is_seen" "is_seen" (defArgs s_is_seen) (defBody s_is_seen) (defScope s_is_seen) .none kV_is_seen dc_is_seen pm_is_seen an_is_seen cd_is_seen ct_is_seen), sl_is_seen⟩)
 (c_is_seen : PySem.W.codeIn K cd_is_seen "is_seen" = true)
 (k_is_seen : PySem.W.keepIn K (.ref f_is_seen) = true)
 (a_narrowed : PySem.W.nsIn K mainGlobals "narrowed" = some (some (.ref f_narrowed)))
 (l_narrowed : K.lookup f_narrowed = some ⟨oc_narrowed, od_narrowed, .func (PySem.W.fnOf "narrowed" "narrowed" (defArgs s_narrowed) (defBody s_narrowed) (defScope s_narrowed) .none kV_narrowed dc_narrowed pm_narrowed an_narrowed cd_narrowed ct_narrowed), sl_narrowed⟩)
 (c_narrowed : PySem.W.codeIn K cd_narrowed "narrowed" = true)
 (k_narrowed : PySem.W.keepIn K (.ref f_narrowed) = true)
 (a_rates_seen : PySem.W.nsIn K mainGlobals "rates_seen" = some (some (.ref f_rates_seen)))
 (l_rates_seen : K.lookup f_rates_seen = some ⟨oc_rates_seen, od_rates_seen, .func (PySem.W.fnOf "rates_seen" "rates_seen" (defArgs s_rates_seen) (defBody s_rates_seen) (defScope s_rates_seen) .none kV_rates_seen dc_rates_seen pm_rates_seen an_rates_seen cd_rates_seen ct_rates_seen), sl_rates_seen⟩)
 (c_rates_seen : PySem.W.codeIn K cd_rates_seen "rates_seen" = true)
 (k_rates_seen : PySem.W.keepIn K (.ref f_rates_seen) = true)
 (a_law_all_refused : PySem.W.nsIn K mainGlobals "_law_all_refused" = some (some (.ref f_law_all_refused)))
 (l_law_all_refused : K.lookup f_law_all_refused = some ⟨oc_law_all_refused, od_law_all_refused, .func (PySem.W.fnOf "_law_all_refused" "_law_all_refused" (defArgs s__law_all_refused) (defBody s__law_all_refused) (defScope s__law_all_refused) .none kV_law_all_refused dc_law_all_refused pm_law_all_refused an_law_all_refused (.ref cM_law_all_refused) ct_law_all_refused), sl_law_all_refused⟩)
 (c_law_all_refused : PySem.W.codeIn K (.ref cM_law_all_refused) "_law_all_refused" = true)
 (k_law_all_refused : PySem.W.keepIn K (.ref f_law_all_refused) = true)
 (a_law_named : PySem.W.nsIn K mainGlobals "_law_named" = some (some (.ref f_law_named)))
 (l_law_named : K.lookup f_law_named = some ⟨oc_law_named, od_law_named, .func (PySem.W.fnOf "_law_named" "_law_named" (defArgs s__law_named) (defBody s__law_named) (defScope s__law_named) .none kV_law_named dc_law_named pm_law_named an_law_named cd_law_named ct_law_named), sl_law_named⟩)
 (c_law_named : PySem.W.codeIn K cd_law_named "_law_named" = true)
 (k_law_named : PySem.W.keepIn K (.ref f_law_named) = true)
 (a_law_cell_at : PySem.W.nsIn K mainGlobals "_law_cell_at" = some (some (.ref f_law_cell_at)))
 (l_law_cell_at : K.lookup f_law_cell_at = some ⟨oc_law_cell_at, od_law_cell_at, .func (PySem.W.fnOf "_law_cell_at" "_law_cell_at" (defArgs s__law_cell_at) (defBody s__law_cell_at) (defScope s__law_cell_at) .none kV_law_cell_at dc_law_cell_at pm_law_cell_at an_law_cell_at cd_law_cell_at ct_law_cell_at), sl_law_cell_at⟩)
 (c_law_cell_at : PySem.W.codeIn K cd_law_cell_at "_law_cell_at" = true)
 (k_law_cell_at : PySem.W.keepIn K (.ref f_law_cell_at) = true)
 (a_law_source : PySem.W.nsIn K mainGlobals "_law_source" = some (some (.ref f_law_source)))
 (l_law_source : K.lookup f_law_source = some ⟨oc_law_source, od_law_source, .func (PySem.W.fnOf "_law_source" "_law_source" (defArgs s__law_source) (defBody s__law_source) (defScope s__law_source) .none kV_law_source dc_law_source pm_law_source an_law_source cd_law_source ct_law_source), sl_law_source⟩)
 (c_law_source : PySem.W.codeIn K cd_law_source "_law_source" = true)
 (k_law_source : PySem.W.keepIn K (.ref f_law_source) = true)
 (a_law : PySem.W.nsIn K mainGlobals "law" = some (some (.ref f_law)))
 (l_law : K.lookup f_law = some ⟨oc_law, od_law, .func (PySem.W.fnOf "law" "law" (defArgs s_law) (defBody s_law) (defScope s_law) .none kV_law dc_law pm_law an_law cd_law ct_law), sl_law⟩)
 (c_law : PySem.W.codeIn K cd_law "law" = true)
 (k_law : PySem.W.keepIn K (.ref f_law) = true)
 (b_ValueError : PySem.W.nsIn K mainGlobals "ValueError" = some none)
 (b_all : PySem.W.nsIn K mainGlobals "all" = some none)
 (b_bool : PySem.W.nsIn K mainGlobals "bool" = some none)
 (b_enumerate : PySem.W.nsIn K mainGlobals "enumerate" = some none)
 (b_int : PySem.W.nsIn K mainGlobals "int" = some none)
 (b_isinstance : PySem.W.nsIn K mainGlobals "isinstance" = some none)
 (b_len : PySem.W.nsIn K mainGlobals "len" = some none)
 (b_list : PySem.W.nsIn K mainGlobals "list" = some none)
 (b_max : PySem.W.nsIn K mainGlobals "max" = some none)
 (b_min : PySem.W.nsIn K mainGlobals "min" = some none)
 (b_range : PySem.W.nsIn K mainGlobals "range" = some none)
 (b_sorted : PySem.W.nsIn K mainGlobals "sorted" = some none)
 (b_tuple : PySem.W.nsIn K mainGlobals "tuple" = some none)
 (g_MOST_BEST : PySem.W.nsIn K mainGlobals "MOST_BEST" = some (some (.int 32 t_MOST_BEST)))
 (g_MOST_SHIFT : PySem.W.nsIn K mainGlobals "MOST_SHIFT" = some (some (.int 64 t_MOST_SHIFT)))
 (g_MOST_WIDTH : PySem.W.nsIn K mainGlobals "MOST_WIDTH" = some (some (.int 64 t_MOST_WIDTH)))
 (xa_KernelError : PySem.W.nsIn K mainGlobals "KernelError" = some (some (.ref C_KernelError)))
 (xq_KernelError : PySem.W.excIn K C_KernelError [.type "ValueError", .type "Exception", .type "BaseException", .type "object"] "ValueError.__new__" = true)
 (xk_KernelError : PySem.W.keepIn K (.ref C_KernelError) = true)
 (xb_KernelError : PySem.W.subIn K (.ref C_KernelError) (.type "BaseException") = some true)
 (xt_KernelError : PySem.W.typeIn K (.ref C_KernelError) = some (.type "type"))
 (xa_NoCycle : PySem.W.nsIn K mainGlobals "NoCycle" = some (some (.ref C_NoCycle)))
 (xq_NoCycle : PySem.W.excIn K C_NoCycle [.type "ValueError", .type "Exception", .type "BaseException", .type "object"] "ValueError.__new__" = true)
 (xk_NoCycle : PySem.W.keepIn K (.ref C_NoCycle) = true)
 (xb_NoCycle : PySem.W.subIn K (.ref C_NoCycle) (.type "BaseException") = some true)
 (xt_NoCycle : PySem.W.typeIn K (.ref C_NoCycle) = some (.type "type"))
 (xa_NoLine : PySem.W.nsIn K mainGlobals "NoLine" = some (some (.ref C_NoLine)))
 (xq_NoLine : PySem.W.excIn K C_NoLine [.type "ValueError", .type "Exception", .type "BaseException", .type "object"] "ValueError.__new__" = true)
 (xk_NoLine : PySem.W.keepIn K (.ref C_NoLine) = true)
 (xb_NoLine : PySem.W.subIn K (.ref C_NoLine) (.type "BaseException") = some true)
 (xt_NoLine : PySem.W.typeIn K (.ref C_NoLine) = some (.type "type"))
 (xa_NoLooks : PySem.W.nsIn K mainGlobals "NoLooks" = some (some (.ref C_NoLooks)))
 (xq_NoLooks : PySem.W.excIn K C_NoLooks [.type "ValueError", .type "Exception", .type "BaseException", .type "object"] "ValueError.__new__" = true)
 (xk_NoLooks : PySem.W.keepIn K (.ref C_NoLooks) = true)
 (xb_NoLooks : PySem.W.subIn K (.ref C_NoLooks) (.type "BaseException") = some true)
 (xt_NoLooks : PySem.W.typeIn K (.ref C_NoLooks) = some (.type "type"))
 (xa_NoRate : PySem.W.nsIn K mainGlobals "NoRate" = some (some (.ref C_NoRate)))
 (xq_NoRate : PySem.W.excIn K C_NoRate [.type "ValueError", .type "Exception", .type "BaseException", .type "object"] "ValueError.__new__" = true)
 (xk_NoRate : PySem.W.keepIn K (.ref C_NoRate) = true)
 (xb_NoRate : PySem.W.subIn K (.ref C_NoRate) (.type "BaseException") = some true)
 (xt_NoRate : PySem.W.typeIn K (.ref C_NoRate) = some (.type "type"))
 (xa_NoReading : PySem.W.nsIn K mainGlobals "NoReading" = some (some (.ref C_NoReading)))
 (xq_NoReading : PySem.W.excIn K C_NoReading [.type "ValueError", .type "Exception", .type "BaseException", .type "object"] "ValueError.__new__" = true)
 (xk_NoReading : PySem.W.keepIn K (.ref C_NoReading) = true)
 (xb_NoReading : PySem.W.subIn K (.ref C_NoReading) (.type "BaseException") = some true)
 (xt_NoReading : PySem.W.typeIn K (.ref C_NoReading) = some (.type "type"))
 (xa_NoWidth : PySem.W.nsIn K mainGlobals "NoWidth" = some (some (.ref C_NoWidth)))
 (xq_NoWidth : PySem.W.excIn K C_NoWidth [.type "ValueError", .type "Exception", .type "BaseException", .type "object"] "ValueError.__new__" = true)
 (xk_NoWidth : PySem.W.keepIn K (.ref C_NoWidth) = true)
 (xb_NoWidth : PySem.W.subIn K (.ref C_NoWidth) (.type "BaseException") = some true)
 (xt_NoWidth : PySem.W.typeIn K (.ref C_NoWidth) = some (.type "type"))
 (tt_law_all_refused : h.get? PM_law_all_refused = some { cls := .none, data := .fields #[] })
 (tl_law_all_refused : K.lookup PM_law_all_refused = none)
 (th_law_all_refused : PySem.W.codeHdIn K cM_law_all_refused PM_law_all_refused = true)
 (xm_NoCycle_KernelError : PySem.W.exmOne K (.ref C_NoCycle) (.ref C_KernelError) = some true)
 (xi_NoCycle_NoCycle : PySem.W.kitOne K (.ref C_NoCycle) (.ref C_NoCycle) = some true)
 (xi_NoCycle_NoLine : PySem.W.kitOne K (.ref C_NoCycle) (.ref C_NoLine) = some false)
 (xi_NoCycle_NoLooks : PySem.W.kitOne K (.ref C_NoCycle) (.ref C_NoLooks) = some false)
 (xi_NoCycle_NoRate : PySem.W.kitOne K (.ref C_NoCycle) (.ref C_NoRate) = some false)
 (xi_NoCycle_NoReading : PySem.W.kitOne K (.ref C_NoCycle) (.ref C_NoReading) = some false)
 (xi_NoCycle_NoWidth : PySem.W.kitOne K (.ref C_NoCycle) (.ref C_NoWidth) = some false)
 (xi_NoCycle_ValueError : PySem.W.kitOne K (.ref C_NoCycle) (.type "ValueError") = some true)
 (xc_NoCycle : ExcC K C_NoCycle)
 (xm_NoRate_KernelError : PySem.W.exmOne K (.ref C_NoRate) (.ref C_KernelError) = some true)
 (xi_NoRate_NoCycle : PySem.W.kitOne K (.ref C_NoRate) (.ref C_NoCycle) = some false)
 (xi_NoRate_NoLine : PySem.W.kitOne K (.ref C_NoRate) (.ref C_NoLine) = some false)
 (xi_NoRate_NoLooks : PySem.W.kitOne K (.ref C_NoRate) (.ref C_NoLooks) = some false)
 (xi_NoRate_NoRate : PySem.W.kitOne K (.ref C_NoRate) (.ref C_NoRate) = some true)
 (xi_NoRate_NoReading : PySem.W.kitOne K (.ref C_NoRate) (.ref C_NoReading) = some false)
 (xi_NoRate_NoWidth : PySem.W.kitOne K (.ref C_NoRate) (.ref C_NoWidth) = some false)
 (xi_NoRate_ValueError : PySem.W.kitOne K (.ref C_NoRate) (.type "ValueError") = some true)
 (xc_NoRate : ExcC K C_NoRate)
 (xm_NoReading_KernelError : PySem.W.exmOne K (.ref C_NoReading) (.ref C_KernelError) = some true)
 (xi_NoReading_NoCycle : PySem.W.kitOne K (.ref C_NoReading) (.ref C_NoCycle) = some false)
 (xi_NoReading_NoLine : PySem.W.kitOne K (.ref C_NoReading) (.ref C_NoLine) = some false)
 (xi_NoReading_NoLooks : PySem.W.kitOne K (.ref C_NoReading) (.ref C_NoLooks) = some false)
 (xi_NoReading_NoRate : PySem.W.kitOne K (.ref C_NoReading) (.ref C_NoRate) = some false)
 (xi_NoReading_NoReading : PySem.W.kitOne K (.ref C_NoReading) (.ref C_NoReading) = some true)
 (xi_NoReading_NoWidth : PySem.W.kitOne K (.ref C_NoReading) (.ref C_NoWidth) = some false)
 (xi_NoReading_ValueError : PySem.W.kitOne K (.ref C_NoReading) (.type "ValueError") = some true)
 (xc_NoReading : ExcC K C_NoReading)
 (xm_NoWidth_KernelError : PySem.W.exmOne K (.ref C_NoWidth) (.ref C_KernelError) = some true)
 (xi_NoWidth_NoCycle : PySem.W.kitOne K (.ref C_NoWidth) (.ref C_NoCycle) = some false)
 (xi_NoWidth_NoLine : PySem.W.kitOne K (.ref C_NoWidth) (.ref C_NoLine) = some false)
 (xi_NoWidth_NoLooks : PySem.W.kitOne K (.ref C_NoWidth) (.ref C_NoLooks) = some false)
 (xi_NoWidth_NoRate : PySem.W.kitOne K (.ref C_NoWidth) (.ref C_NoRate) = some false)
 (xi_NoWidth_NoReading : PySem.W.kitOne K (.ref C_NoWidth) (.ref C_NoReading) = some false)
 (xi_NoWidth_NoWidth : PySem.W.kitOne K (.ref C_NoWidth) (.ref C_NoWidth) = some true)
 (xi_NoWidth_ValueError : PySem.W.kitOne K (.ref C_NoWidth) (.type "ValueError") = some true)
 (xc_NoWidth : ExcC K C_NoWidth)
 : LamX.LawAtS l w K (L2.CX l.prog w) 8 63 "script" mg fa h := by
  letI : TabT := ⟨[(PM_law_all_refused, (("_law_all_refused" : Str) ++ ".<locals>.") ++ "<lambda>")]⟩
  have e := hfa.symm.trans (PySem.W.mg_of X G a_law)
  cases e
  have T : Txt K mg (Cs.mk K C_KernelError C_NoWidth C_NoLooks C_NoCycle C_NoRate C_NoReading C_NoLine 0 0 0 0 0 0 0 0 0 0 0 0 0 0 0 0 0 0 0 0) := ⟨rfl, PySem.W.mg_none_of X G b_ValueError, PySem.W.mg_none_of X G b_all, PySem.W.mg_none_of X G b_bool, PySem.W.mg_none_of X G b_enumerate, PySem.W.mg_none_of X G b_int, PySem.W.mg_none_of X G b_isinstance, PySem.W.mg_none_of X G b_len, PySem.W.mg_none_of X G b_list, PySem.W.mg_none_of X G b_max, PySem.W.mg_none_of X G b_min, PySem.W.mg_none_of X G b_range, PySem.W.mg_none_of X G b_sorted, PySem.W.mg_none_of X G b_tuple, ⟨_, PySem.W.mg_of X G g_MOST_BEST, ⟨_, rfl⟩⟩, ⟨_, PySem.W.mg_of X G g_MOST_SHIFT, ⟨_, rfl⟩⟩, ⟨_, PySem.W.mg_of X G g_MOST_WIDTH, ⟨_, rfl⟩⟩, ⟨PySem.W.mg_of X G xa_KernelError, xq_KernelError, xk_KernelError, xb_KernelError, xt_KernelError⟩, ⟨PySem.W.mg_of X G xa_NoCycle, xq_NoCycle, xk_NoCycle, xb_NoCycle, xt_NoCycle⟩, ⟨PySem.W.mg_of X G xa_NoLine, xq_NoLine, xk_NoLine, xb_NoLine, xt_NoLine⟩, ⟨PySem.W.mg_of X G xa_NoLooks, xq_NoLooks, xk_NoLooks, xb_NoLooks, xt_NoLooks⟩, ⟨PySem.W.mg_of X G xa_NoRate, xq_NoRate, xk_NoRate, xb_NoRate, xt_NoRate⟩, ⟨PySem.W.mg_of X G xa_NoReading, xq_NoReading, xk_NoReading, xb_NoReading, xt_NoReading⟩, ⟨PySem.W.mg_of X G xa_NoWidth, xq_NoWidth, xk_NoWidth, xb_NoWidth, xt_NoWidth⟩⟩
  have F_law_mixed := fun0 (st := s__law_mixed) l_law_mixed c_law_mixed k_law_mixed
  have F_law_next := fun0 (st := s__law_next) l_law_next c_law_next k_law_next
  have F_law_odd := fun0 (st := s__law_odd) l_law_odd c_law_odd k_law_odd
  have F_law_odd_pair := fun0 (st := s__law_odd_pair) l_law_odd_pair c_law_odd_pair k_law_odd_pair
  have F_law_odd_rows := fun0 (st := s__law_odd_rows) l_law_odd_rows c_law_odd_rows k_law_odd_rows
  have F_law_word := fun0 (st := s__law_word) l_law_word c_law_word k_law_word
  have F_is_whole := funD (st := s_is_whole) l_is_whole c_is_whole k_is_whole t_is_whole u_is_whole v_is_whole (by decide)
  have F_power := fun0 (st := s_power) l_power c_power k_power
  have F_best_rate := fun0 (st := s_best_rate) l_best_rate c_best_rate k_best_rate
  have F_is_mult := fun0 (st := s_is_mult) l_is_mult c_is_mult k_is_mult
  have F_is_shift := fun0 (st := s_is_shift) l_is_shift c_is_shift k_is_shift
  have F_check_rate := fun0 (st := s_check_rate) l_check_rate c_check_rate k_check_rate
  have F_round_up := fun0 (st := s_round_up) l_round_up c_round_up k_round_up
  have F_first_cycle := fun0 (st := s_first_cycle) l_first_cycle c_first_cycle k_first_cycle
  have F_check_width := fun0 (st := s_check_width) l_check_width c_check_width k_check_width
  have F_longest_span := fun0 (st := s_longest_span) l_longest_span c_longest_span k_longest_span
  have F_check_cycle := funD (st := s_check_cycle) l_check_cycle c_check_cycle k_check_cycle t_check_cycle u_check_cycle v_check_cycle (by decide)
  have F_rate_reading := fun0 (st := s_rate_reading) l_rate_reading c_rate_reading k_rate_reading
  have F_is_seen := fun0 (st := s_is_seen) l_is_seen c_is_seen k_is_seen
  have F_narrowed := fun0 (st := s_narrowed) l_narrowed c_narrowed k_narrowed
  have F_rates_seen := fun0 (st := s_rates_seen) l_rates_seen c_rates_seen k_rates_seen
  have F_law_all_refused := fun0 (st := s__law_all_refused) l_law_all_refused c_law_all_refused k_law_all_refused
  have F_law_named := fun0 (st := s__law_named) l_law_named c_law_named k_law_named
  have F_law_cell_at := fun0 (st := s__law_cell_at) l_law_cell_at c_law_cell_at k_law_cell_at
  have F_law_source := fun0 (st := s__law_source) l_law_source c_law_source k_law_source
  have F_law := fun0 (st := s_law) l_law c_law k_law
  have tt : ∀ p ∈ [(cM_law_all_refused, PM_law_all_refused)], h.get? p.2 = some { cls := .none, data := .fields #[] } := fun p hp => by
    simp only [List.mem_cons, List.not_mem_nil, or_false] at hp
    rcases hp with rfl
    · exact tt_law_all_refused
  have tl : ∀ p ∈ [(cM_law_all_refused, PM_law_all_refused)], K.lookup p.2 = none := fun p hp => by
    simp only [List.mem_cons, List.not_mem_nil, or_false] at hp
    rcases hp with rfl
    · exact tl_law_all_refused
  have th : ∀ p ∈ [(cM_law_all_refused, PM_law_all_refused)], PySem.W.CodeHd h p.1 p.2 := fun p hp => by
    simp only [List.mem_cons, List.not_mem_nil, or_false] at hp
    rcases hp with rfl
    · exact PySem.W.codeHd_of_K X th_law_all_refused
  refine ⟨_, [(cM_law_all_refused, PM_law_all_refused)], spLawT K [PM_law_all_refused], tt, tl, th, fun s v => F_law.bindsA (ps := ["script"]) (fun _ _ _ _ _ _ us hl => match us, hl with | [_], _ => rfl) s [v] rfl, fun H a ns h1 h2 h3 h4 => ⟨a, ns, rfl, h1, h2, fun Q hQ => ?_, h4, fun _ => rfl⟩, fun base hb hns hTB => ?_⟩
  · simp only [List.mem_cons, List.not_mem_nil, or_false] at hQ
    have hqx := hQ
    · rw [hqx]; exact h3 (cM_law_all_refused, PM_law_all_refused) (by simp)
  have ML_law_all_refused : MkL base mg cM_law_all_refused PM_law_all_refused ((("_law_all_refused" : Str) ++ ".<locals>.") ++ "<lambda>") := ⟨hTB (cM_law_all_refused, PM_law_all_refused) (by simp), List.mem_cons_self, fun z hz => by
    have hz : z ∈ [(PM_law_all_refused, (("_law_all_refused" : Str) ++ ".<locals>.") ++ "<lambda>")] := hz
    simp only [List.mem_cons, List.not_mem_nil, or_false] at hz
    rcases hz with rfl
    · intro _; rfl⟩
  have D__law_mixed : ∀ [LamT], Df l.prog w K mg base 1 "_law_mixed" 2 [] (m_law_mixed (Cs.mk K C_KernelError C_NoWidth C_NoLooks C_NoCycle C_NoRate C_NoReading C_NoLine 0 0 0 0 0 0 0 0 0 0 0 0 0 0 0 0 0 0 0 0)) := ok__law_mixed (P := l.prog) (w := w) (base := base) T F_law_mixed (PySem.W.mg_of X G a_law_mixed)
  have D__law_next : ∀ [LamT], Df l.prog w K mg base 2 "_law_next" 2 [] (m_law_next (Cs.mk K C_KernelError C_NoWidth C_NoLooks C_NoCycle C_NoRate C_NoReading C_NoLine 0 0 0 0 0 0 0 0 0 0 0 0 0 0 0 0 0 0 0 0)) := ok__law_next (P := l.prog) (w := w) (base := base) T F_law_next (PySem.W.mg_of X G a_law_next) D__law_mixed
  have D__law_odd : ∀ [LamT], Df l.prog w K mg base 3 "_law_odd" 2 [] (m_law_odd (Cs.mk K C_KernelError C_NoWidth C_NoLooks C_NoCycle C_NoRate C_NoReading C_NoLine 0 0 0 0 0 0 0 0 0 0 0 0 0 0 0 0 0 0 0 0)) := ok__law_odd (P := l.prog) (w := w) (base := base) T F_law_odd (PySem.W.mg_of X G a_law_odd) D__law_next
  have D__law_odd_pair : ∀ [LamT], Df l.prog w K mg base 3 "_law_odd_pair" 1 [] (m_law_odd_pair (Cs.mk K C_KernelError C_NoWidth C_NoLooks C_NoCycle C_NoRate C_NoReading C_NoLine 0 0 0 0 0 0 0 0 0 0 0 0 0 0 0 0 0 0 0 0)) := ok__law_odd_pair (P := l.prog) (w := w) (base := base) T F_law_odd_pair (PySem.W.mg_of X G a_law_odd_pair) D__law_next
  have D__law_odd_rows : ∀ [LamT], Df l.prog w K mg base 3 "_law_odd_rows" 1 [] (m_law_odd_rows (Cs.mk K C_KernelError C_NoWidth C_NoLooks C_NoCycle C_NoRate C_NoReading C_NoLine 0 0 0 0 0 0 0 0 0 0 0 0 0 0 0 0 0 0 0 0)) := ok__law_odd_rows (P := l.prog) (w := w) (base := base) T F_law_odd_rows (PySem.W.mg_of X G a_law_odd_rows) D__law_next
  have DW__law_word : ∀ {k : Nat}, DfW l.prog w K mg base (k + 1) "_law_word" 1 3 0 (b_law_word (Cs.mk K C_KernelError C_NoWidth C_NoLooks C_NoCycle C_NoRate C_NoReading C_NoLine 0 0 0 0 0 0 0 0 0 0 0 0 0 0 0 0 0 0 0 0)) := ok__law_word (P := l.prog) (w := w) (base := base) T F_law_word (PySem.W.mg_of X G a_law_word)
  have D_is_whole : ∀ [LamT], Df l.prog w K mg base 1 "is_whole" 2 [.non] (m_is_whole (Cs.mk K C_KernelError C_NoWidth C_NoLooks C_NoCycle C_NoRate C_NoReading C_NoLine 0 0 0 0 0 0 0 0 0 0 0 0 0 0 0 0 0 0 0 0)) := ok_is_whole (P := l.prog) (w := w) (base := base) T F_is_whole (PySem.W.mg_of X G a_is_whole)
  have D_power : ∀ [LamT], Df l.prog w K mg base 1 "power" 1 [] (m_power (Cs.mk K C_KernelError C_NoWidth C_NoLooks C_NoCycle C_NoRate C_NoReading C_NoLine 0 0 0 0 0 0 0 0 0 0 0 0 0 0 0 0 0 0 0 0)) := ok_power (P := l.prog) (w := w) (base := base) T F_power (PySem.W.mg_of X G a_power)
  have D_best_rate : ∀ [LamT], Df l.prog w K mg base 2 "best_rate" 3 [] (m_best_rate (Cs.mk K C_KernelError C_NoWidth C_NoLooks C_NoCycle C_NoRate C_NoReading C_NoLine 0 0 0 0 0 0 0 0 0 0 0 0 0 0 0 0 0 0 0 0)) := ok_best_rate (P := l.prog) (w := w) (base := base) T F_best_rate (PySem.W.mg_of X G a_best_rate) D_is_whole D_power
  have DK_best_rate : ∀ [LamT], DfK l.prog w K mg base 2 "best_rate" 3 ["most", "units", "frequency"] (pick [2, 1, 0]) (m_best_rate (Cs.mk K C_KernelError C_NoWidth C_NoLooks C_NoCycle C_NoRate C_NoReading C_NoLine 0 0 0 0 0 0 0 0 0 0 0 0 0 0 0 0 0 0 0 0)) := okK_best_rate (P := l.prog) (w := w) (base := base) T F_best_rate (PySem.W.mg_of X G a_best_rate) D_is_whole D_power
  have D_is_mult : ∀ [LamT], Df l.prog w K mg base 2 "is_mult" 1 [] (m_is_mult (Cs.mk K C_KernelError C_NoWidth C_NoLooks C_NoCycle C_NoRate C_NoReading C_NoLine 0 0 0 0 0 0 0 0 0 0 0 0 0 0 0 0 0 0 0 0)) := ok_is_mult (P := l.prog) (w := w) (base := base) T F_is_mult (PySem.W.mg_of X G a_is_mult) D_is_whole D_power
  have D_is_shift : ∀ [LamT], Df l.prog w K mg base 2 "is_shift" 1 [] (m_is_shift (Cs.mk K C_KernelError C_NoWidth C_NoLooks C_NoCycle C_NoRate C_NoReading C_NoLine 0 0 0 0 0 0 0 0 0 0 0 0 0 0 0 0 0 0 0 0)) := ok_is_shift (P := l.prog) (w := w) (base := base) T F_is_shift (PySem.W.mg_of X G a_is_shift) D_is_whole
  have D_check_rate : ∀ [LamT], Df l.prog w K mg base 3 "check_rate" 1 [] (m_check_rate (Cs.mk K C_KernelError C_NoWidth C_NoLooks C_NoCycle C_NoRate C_NoReading C_NoLine 0 0 0 0 0 0 0 0 0 0 0 0 0 0 0 0 0 0 0 0)) := ok_check_rate (P := l.prog) (w := w) (base := base) T F_check_rate (PySem.W.mg_of X G a_check_rate) D_is_mult D_is_shift
  have D_round_up : ∀ [LamT], Df l.prog w K mg base 1 "round_up" 2 [] (m_round_up (Cs.mk K C_KernelError C_NoWidth C_NoLooks C_NoCycle C_NoRate C_NoReading C_NoLine 0 0 0 0 0 0 0 0 0 0 0 0 0 0 0 0 0 0 0 0)) := ok_round_up (P := l.prog) (w := w) (base := base) T F_round_up (PySem.W.mg_of X G a_round_up)
  have D_first_cycle : ∀ [LamT], Df l.prog w K mg base 4 "first_cycle" 2 [] (m_first_cycle (Cs.mk K C_KernelError C_NoWidth C_NoLooks C_NoCycle C_NoRate C_NoReading C_NoLine 0 0 0 0 0 0 0 0 0 0 0 0 0 0 0 0 0 0 0 0)) := ok_first_cycle (P := l.prog) (w := w) (base := base) T F_first_cycle (PySem.W.mg_of X G a_first_cycle) D_check_rate D_is_whole D_round_up
  have DK_first_cycle : ∀ [LamT], DfK l.prog w K mg base 4 "first_cycle" 2 ["reading", "rate"] (pick [1, 0]) (m_first_cycle (Cs.mk K C_KernelError C_NoWidth C_NoLooks C_NoCycle C_NoRate C_NoReading C_NoLine 0 0 0 0 0 0 0 0 0 0 0 0 0 0 0 0 0 0 0 0)) := okK_first_cycle (P := l.prog) (w := w) (base := base) T F_first_cycle (PySem.W.mg_of X G a_first_cycle) D_check_rate D_is_whole D_round_up
  have D_check_width : ∀ [LamT], Df l.prog w K mg base 2 "check_width" 1 [] (m_check_width (Cs.mk K C_KernelError C_NoWidth C_NoLooks C_NoCycle C_NoRate C_NoReading C_NoLine 0 0 0 0 0 0 0 0 0 0 0 0 0 0 0 0 0 0 0 0)) := ok_check_width (P := l.prog) (w := w) (base := base) T F_check_width (PySem.W.mg_of X G a_check_width) D_is_whole
  have D_longest_span : ∀ [LamT], Df l.prog w K mg base 4 "longest_span" 2 [] (m_longest_span (Cs.mk K C_KernelError C_NoWidth C_NoLooks C_NoCycle C_NoRate C_NoReading C_NoLine 0 0 0 0 0 0 0 0 0 0 0 0 0 0 0 0 0 0 0 0)) := ok_longest_span (P := l.prog) (w := w) (base := base) T F_longest_span (PySem.W.mg_of X G a_longest_span) D_check_rate D_check_width D_power
  have DK_longest_span : ∀ [LamT], DfK l.prog w K mg base 4 "longest_span" 2 ["rate", "width"] (pick [1, 0]) (m_longest_span (Cs.mk K C_KernelError C_NoWidth C_NoLooks C_NoCycle C_NoRate C_NoReading C_NoLine 0 0 0 0 0 0 0 0 0 0 0 0 0 0 0 0 0 0 0 0)) := okK_longest_span (P := l.prog) (w := w) (base := base) T F_longest_span (PySem.W.mg_of X G a_longest_span) D_check_rate D_check_width D_power
  have D_check_cycle : ∀ [LamT], Df l.prog w K mg base 2 "check_cycle" 2 [(.int 0)] (m_check_cycle (Cs.mk K C_KernelError C_NoWidth C_NoLooks C_NoCycle C_NoRate C_NoReading C_NoLine 0 0 0 0 0 0 0 0 0 0 0 0 0 0 0 0 0 0 0 0)) := ok_check_cycle (P := l.prog) (w := w) (base := base) T F_check_cycle (PySem.W.mg_of X G a_check_cycle) D_is_whole
  have D_rate_reading : ∀ [LamT], Df l.prog w K mg base 4 "rate_reading" 2 [] (m_rate_reading (Cs.mk K C_KernelError C_NoWidth C_NoLooks C_NoCycle C_NoRate C_NoReading C_NoLine 0 0 0 0 0 0 0 0 0 0 0 0 0 0 0 0 0 0 0 0)) := ok_rate_reading (P := l.prog) (w := w) (base := base) T F_rate_reading (PySem.W.mg_of X G a_rate_reading) D_check_cycle D_check_rate
  have DK_rate_reading : ∀ [LamT], DfK l.prog w K mg base 4 "rate_reading" 2 ["cycles", "rate"] (pick [1, 0]) (m_rate_reading (Cs.mk K C_KernelError C_NoWidth C_NoLooks C_NoCycle C_NoRate C_NoReading C_NoLine 0 0 0 0 0 0 0 0 0 0 0 0 0 0 0 0 0 0 0 0)) := okK_rate_reading (P := l.prog) (w := w) (base := base) T F_rate_reading (PySem.W.mg_of X G a_rate_reading) D_check_cycle D_check_rate
  have D_is_seen : ∀ [LamT], Df l.prog w K mg base 2 "is_seen" 1 [] (m_is_seen (Cs.mk K C_KernelError C_NoWidth C_NoLooks C_NoCycle C_NoRate C_NoReading C_NoLine 0 0 0 0 0 0 0 0 0 0 0 0 0 0 0 0 0 0 0 0)) := ok_is_seen (P := l.prog) (w := w) (base := base) T F_is_seen (PySem.W.mg_of X G a_is_seen) D_is_whole
  have D_narrowed : ∀ [LamT], Df l.prog w K mg base 2 "narrowed" 5 [] (m_narrowed (Cs.mk K C_KernelError C_NoWidth C_NoLooks C_NoCycle C_NoRate C_NoReading C_NoLine 0 0 0 0 0 0 0 0 0 0 0 0 0 0 0 0 0 0 0 0)) := ok_narrowed (P := l.prog) (w := w) (base := base) T F_narrowed (PySem.W.mg_of X G a_narrowed) D_round_up
  have D_rates_seen : ∀ [LamT], Df l.prog w K mg base 3 "rates_seen" 2 [] (m_rates_seen (Cs.mk K C_KernelError C_NoWidth C_NoLooks C_NoCycle C_NoRate C_NoReading C_NoLine 0 0 0 0 0 0 0 0 0 0 0 0 0 0 0 0 0 0 0 0)) := ok_rates_seen (P := l.prog) (w := w) (base := base) T F_rates_seen (PySem.W.mg_of X G a_rates_seen) D_is_seen D_is_shift D_narrowed
  have DK_rates_seen : ∀ [LamT], DfK l.prog w K mg base 3 "rates_seen" 2 ["seen", "shift"] (pick [1, 0]) (m_rates_seen (Cs.mk K C_KernelError C_NoWidth C_NoLooks C_NoCycle C_NoRate C_NoReading C_NoLine 0 0 0 0 0 0 0 0 0 0 0 0 0 0 0 0 0 0 0 0)) := okK_rates_seen (P := l.prog) (w := w) (base := base) T F_rates_seen (PySem.W.mg_of X G a_rates_seen) D_is_seen D_is_shift D_narrowed
  have D__law_all_refused : ∀ [LamT], Df l.prog w K mg base 7 "_law_all_refused" 1 [] (m_law_all_refused (Cs.mk K C_KernelError C_NoWidth C_NoLooks C_NoCycle C_NoRate C_NoReading C_NoLine 0 0 0 0 0 0 0 0 0 0 0 0 0 0 0 0 0 0 0 0)) := ok__law_all_refused (P := l.prog) (w := w) (base := base) T F_law_all_refused (PySem.W.mg_of X G a_law_all_refused) D__law_next D__law_odd D__law_odd_pair D__law_odd_rows DW__law_word D_best_rate D_first_cycle D_longest_span D_rate_reading D_rates_seen rfl ML_law_all_refused
  have D__law_named : ∀ [LamT], Df l.prog w K mg base 5 "_law_named" 1 [] (m_law_named (Cs.mk K C_KernelError C_NoWidth C_NoLooks C_NoCycle C_NoRate C_NoReading C_NoLine 0 0 0 0 0 0 0 0 0 0 0 0 0 0 0 0 0 0 0 0)) := ok__law_named (P := l.prog) (w := w) (base := base) T F_law_named (PySem.W.mg_of X G a_law_named) D__law_next D_best_rate D_first_cycle D_longest_span D_rate_reading D_rates_seen DK_best_rate DK_first_cycle DK_longest_span DK_rate_reading DK_rates_seen
  have D__law_cell_at : ∀ [LamT], Df l.prog w K mg base 1 "_law_cell_at" 2 [] (m_law_cell_at (Cs.mk K C_KernelError C_NoWidth C_NoLooks C_NoCycle C_NoRate C_NoReading C_NoLine 0 0 0 0 0 0 0 0 0 0 0 0 0 0 0 0 0 0 0 0)) := ok__law_cell_at (P := l.prog) (w := w) (base := base) T F_law_cell_at (PySem.W.mg_of X G a_law_cell_at)
  have D__law_source : ∀ [LamT], Df l.prog w K mg base 2 "_law_source" 2 [] (m_law_source (Cs.mk K C_KernelError C_NoWidth C_NoLooks C_NoCycle C_NoRate C_NoReading C_NoLine 0 0 0 0 0 0 0 0 0 0 0 0 0 0 0 0 0 0 0 0)) := ok__law_source (P := l.prog) (w := w) (base := base) T F_law_source (PySem.W.mg_of X G a_law_source) D__law_cell_at D__law_mixed
  exact fn_lawT ⟨rfl, rfl, fun _ _ => rfl⟩ (fun p hp => List.mem_map.mpr ⟨p, hp, rfl⟩) (ok_law T F_law D__law_all_refused D__law_named D__law_source) (run_law _ ⟨xm_NoCycle_KernelError, xi_NoCycle_NoCycle, xi_NoCycle_NoLine, xi_NoCycle_NoLooks, xi_NoCycle_NoRate, xi_NoCycle_NoReading, xi_NoCycle_NoWidth, xi_NoCycle_ValueError, xc_NoCycle, xm_NoRate_KernelError, xi_NoRate_NoCycle, xi_NoRate_NoLine, xi_NoRate_NoLooks, xi_NoRate_NoRate, xi_NoRate_NoReading, xi_NoRate_NoWidth, xi_NoRate_ValueError, xc_NoRate, xm_NoReading_KernelError, xi_NoReading_NoCycle, xi_NoReading_NoLine, xi_NoReading_NoLooks, xi_NoReading_NoRate, xi_NoReading_NoReading, xi_NoReading_NoWidth, xi_NoReading_ValueError, xc_NoReading, xm_NoWidth_KernelError, xi_NoWidth_NoCycle, xi_NoWidth_NoLine, xi_NoWidth_NoLooks, xi_NoWidth_NoRate, xi_NoWidth_NoReading, xi_NoWidth_NoWidth, xi_NoWidth_ValueError, xc_NoWidth⟩)
end L3
open PySem PySem.W PyProof.Rows
set_option maxHeartbeats 0 in
theorem PySem.Challenge.cw_timekernel_k08_rates_refused_holds : PySem.Challenge.rw_timekernel_k08_rates_refused.Holds := by
  w_on; o_law; k_head; (case hw => w_witness2)
  k_fill
  refine LamX.walk_ofTs (l := PySem.Challenge.rw_timekernel_k08_rates_refused) (n := 63) (k := 8) (x := "script") (CX := fun w => L2.CX PySem.Challenge.pw_timekernel_k08_rates_refused w) rfl (by decide) rfl ⟨rfl, by decide, by decide⟩ (fun w h Y => PySem.W.km_in_of Y) ?F (fun w H s e s' h => L3.cx_none h)
  case F =>
    intro w mg fa h Y KX G hmg
    refine' L3.all_mk KX G hmg ?a_law_mixed ?l_law_mixed ?c_law_mixed ?k_law_mixed ?a_law_next ?l_law_next ?c_law_next ?k_law_next ?a_law_odd ?l_law_odd ?c_law_odd ?k_law_odd ?a_law_odd_pair ?l_law_odd_pair ?c_law_odd_pair ?k_law_odd_pair ?a_law_odd_rows ?l_law_odd_rows ?c_law_odd_rows ?k_law_odd_rows ?a_law_word ?l_law_word ?c_law_word ?k_law_word ?a_is_whole ?l_is_whole ?c_is_whole ?k_is_whole ?t_is_whole ?u_is_whole ?v_is_whole ?a_power ?l_power ?c_power ?k_power ?a_best_rate ?l_best_rate ?c_best_rate ?k_best_rate ?a_is_mult ?l_is_mult ?c_is_mult ?k_is_mult ?a_is_shift ?l_is_shift ?c_is_shift ?k_is_shift ?a_check_rate ?l_check_rate ?c_check_rate ?k_check_rate ?a_round_up ?l_round_up ?c_round_up ?k_round_up ?a_first_cycle ?l_first_cycle ?c_first_cycle ?k_first_cycle ?a_check_width ?l_check_width ?c_check_width ?k_check_width ?a_longest_span ?l_longest_span ?c_longest_span ?k_longest_span ?a_check_cycle ?l_check_cycle ?c_check_cycle ?k_check_cycle ?t_check_cycle ?u_check_cycle ?v_check_cycle ?a_rate_reading ?l_rate_reading ?c_rate_reading ?k_rate_reading ?a_is_seen ?l_is_seen ?c_is_seen ?k_is_seen ?a_narrowed ?l_narrowed ?c_narrowed ?k_narrowed ?a_rates_seen ?l_rates_seen ?c_rates_seen ?k_rates_seen ?a_law_all_refused ?l_law_all_refused ?c_law_all_refused ?k_law_all_refused ?a_law_named ?l_law_named ?c_law_named ?k_law_named ?a_law_cell_at ?l_law_cell_at ?c_law_cell_at ?k_law_cell_at ?a_law_source ?l_law_source ?c_law_source ?k_law_source ?a_law ?l_law ?c_law ?k_law ?b_ValueError ?b_all ?b_bool ?b_enumerate ?b_int ?b_isinstance ?b_len ?b_list ?b_max ?b_min ?b_range ?b_sorted ?b_tuple ?g_MOST_BEST ?g_MOST_SHIFT ?g_MOST_WIDTH ?xa_KernelError ?xq_KernelError ?xk_KernelError ?xb_KernelError ?xt_KernelError ?xa_NoCycle ?xq_NoCycle ?xk_NoCycle ?xb_NoCycle ?xt_NoCycle ?xa_NoLine ?xq_NoLine ?xk_NoLine ?xb_NoLine ?xt_NoLine ?xa_NoLooks ?xq_NoLooks ?xk_NoLooks ?xb_NoLooks ?xt_NoLooks ?xa_NoRate ?xq_NoRate ?xk_NoRate ?xb_NoRate ?xt_NoRate ?xa_NoReading ?xq_NoReading ?xk_NoReading ?xb_NoReading ?xt_NoReading ?xa_NoWidth ?xq_NoWidth ?xk_NoWidth ?xb_NoWidth ?xt_NoWidth ?tt_law_all_refused ?tl_law_all_refused ?th_law_all_refused ?xm_NoCycle_KernelError ?xi_NoCycle_NoCycle ?xi_NoCycle_NoLine ?xi_NoCycle_NoLooks ?xi_NoCycle_NoRate ?xi_NoCycle_NoReading ?xi_NoCycle_NoWidth ?xi_NoCycle_ValueError ?xc_NoCycle ?xm_NoRate_KernelError ?xi_NoRate_NoCycle ?xi_NoRate_NoLine ?xi_NoRate_NoLooks ?xi_NoRate_NoRate ?xi_NoRate_NoReading ?xi_NoRate_NoWidth ?xi_NoRate_ValueError ?xc_NoRate ?xm_NoReading_KernelError ?xi_NoReading_NoCycle ?xi_NoReading_NoLine ?xi_NoReading_NoLooks ?xi_NoReading_NoRate ?xi_NoReading_NoReading ?xi_NoReading_NoWidth ?xi_NoReading_ValueError ?xc_NoReading ?xm_NoWidth_KernelError ?xi_NoWidth_NoCycle ?xi_NoWidth_NoLine ?xi_NoWidth_NoLooks ?xi_NoWidth_NoRate ?xi_NoWidth_NoReading ?xi_NoWidth_NoWidth ?xi_NoWidth_ValueError ?xc_NoWidth
    (case a_law_mixed => k_is)
    (case l_law_mixed => k_is)
    (case c_law_mixed => k_is)
    (case k_law_mixed => k_is)
    (case a_law_next => k_is)
    (case l_law_next => k_is)
    (case c_law_next => k_is)
    (case k_law_next => k_is)
    (case a_law_odd => k_is)
    (case l_law_odd => k_is)
    (case c_law_odd => k_is)
    (case k_law_odd => k_is)
    (case a_law_odd_pair => k_is)
    (case l_law_odd_pair => k_is)
    (case c_law_odd_pair => k_is)
    (case k_law_odd_pair => k_is)
    (case a_law_odd_rows => k_is)
    (case l_law_odd_rows => k_is)
    (case c_law_odd_rows => k_is)
    (case k_law_odd_rows => k_is)
    (case a_law_word => k_is)
    (case l_law_word => k_is)
    (case c_law_word => k_is)
    (case k_law_word => k_is)
    (case a_is_whole => k_is)
    (case l_is_whole => k_is)
    (case c_is_whole => k_is)
    (case k_is_whole => k_is)
    (case t_is_whole => k_is)
    (case u_is_whole => first | rfl | k_is)
    (case v_is_whole => exact .cons rfl .nil)
    (case a_power => k_is)
    (case l_power => k_is)
    (case c_power => k_is)
    (case k_power => k_is)
    (case a_best_rate => k_is)
    (case l_best_rate => k_is)
    (case c_best_rate => k_is)
    (case k_best_rate => k_is)
    (case a_is_mult => k_is)
    (case l_is_mult => k_is)
    (case c_is_mult => k_is)
    (case k_is_mult => k_is)
    (case a_is_shift => k_is)
    (case l_is_shift => k_is)
    (case c_is_shift => k_is)
    (case k_is_shift => k_is)
    (case a_check_rate => k_is)
    (case l_check_rate => k_is)
    (case c_check_rate => k_is)
    (case k_check_rate => k_is)
    (case a_round_up => k_is)
    (case l_round_up => k_is)
    (case c_round_up => k_is)
    (case k_round_up => k_is)
    (case a_first_cycle => k_is)
    (case l_first_cycle => k_is)
    (case c_first_cycle => k_is)
    (case k_first_cycle => k_is)
    (case a_check_width => k_is)
    (case l_check_width => k_is)
    (case c_check_width => k_is)
    (case k_check_width => k_is)
    (case a_longest_span => k_is)
    (case l_longest_span => k_is)
    (case c_longest_span => k_is)
    (case k_longest_span => k_is)
    (case a_check_cycle => k_is)
    (case l_check_cycle => k_is)
    (case c_check_cycle => k_is)
    (case k_check_cycle => k_is)
    (case t_check_cycle => k_is)
    (case u_check_cycle => first | rfl | k_is)
    (case v_check_cycle => exact .cons ⟨_, rfl⟩ .nil)
    (case a_rate_reading => k_is)
    (case l_rate_reading => k_is)
    (case c_rate_reading => k_is)
    (case k_rate_reading => k_is)
    (case a_is_seen => k_is)
    (case l_is_seen => k_is)
    (case c_is_seen => k_is)
    (case k_is_seen => k_is)
    (case a_narrowed => k_is)
    (case l_narrowed => k_is)
    (case c_narrowed => k_is)
    (case k_narrowed => k_is)
    (case a_rates_seen => k_is)
    (case l_rates_seen => k_is)
    (case c_rates_seen => k_is)
    (case k_rates_seen => k_is)
    (case a_law_all_refused => k_is)
    (case l_law_all_refused => k_is)
    (case c_law_all_refused => k_is)
    (case k_law_all_refused => k_is)
    (case a_law_named => k_is)
    (case l_law_named => k_is)
    (case c_law_named => k_is)
    (case k_law_named => k_is)
    (case a_law_cell_at => k_is)
    (case l_law_cell_at => k_is)
    (case c_law_cell_at => k_is)
    (case k_law_cell_at => k_is)
    (case a_law_source => k_is)
    (case l_law_source => k_is)
    (case c_law_source => k_is)
    (case k_law_source => k_is)
    (case a_law => k_is)
    (case l_law => k_is)
    (case c_law => k_is)
    (case k_law => k_is)
    (case b_ValueError => k_is)
    (case b_all => k_is)
    (case b_bool => k_is)
    (case b_enumerate => k_is)
    (case b_int => k_is)
    (case b_isinstance => k_is)
    (case b_len => k_is)
    (case b_list => k_is)
    (case b_max => k_is)
    (case b_min => k_is)
    (case b_range => k_is)
    (case b_sorted => k_is)
    (case b_tuple => k_is)
    (case g_MOST_BEST => k_is)
    (case g_MOST_SHIFT => k_is)
    (case g_MOST_WIDTH => k_is)
    (case xa_KernelError => k_is)
    (case xq_KernelError => k_exc)
    (case xk_KernelError => k_is)
    (case xb_KernelError => k_is)
    (case xt_KernelError => k_is)
    (case xa_NoCycle => k_is)
    (case xq_NoCycle => k_exc)
    (case xk_NoCycle => k_is)
    (case xb_NoCycle => k_is)
    (case xt_NoCycle => k_is)
    (case xa_NoLine => k_is)
    (case xq_NoLine => k_exc)
    (case xk_NoLine => k_is)
    (case xb_NoLine => k_is)
    (case xt_NoLine => k_is)
    (case xa_NoLooks => k_is)
    (case xq_NoLooks => k_exc)
    (case xk_NoLooks => k_is)
    (case xb_NoLooks => k_is)
    (case xt_NoLooks => k_is)
    (case xa_NoRate => k_is)
    (case xq_NoRate => k_exc)
    (case xk_NoRate => k_is)
    (case xb_NoRate => k_is)
    (case xt_NoRate => k_is)
    (case xa_NoReading => k_is)
    (case xq_NoReading => k_exc)
    (case xk_NoReading => k_is)
    (case xb_NoReading => k_is)
    (case xt_NoReading => k_is)
    (case xa_NoWidth => k_is)
    (case xq_NoWidth => k_exc)
    (case xk_NoWidth => k_is)
    (case xb_NoWidth => k_is)
    (case xt_NoWidth => k_is)
    (case tt_law_all_refused => exact PySem.W.km_tabs_of Y _ (List.mem_cons_self))
    (case tl_law_all_refused => first | k_is | kernel_rfl | rfl)
    (case th_law_all_refused => first | k_is | kernel_rfl | rfl)
    (case xm_NoCycle_KernelError => first | k_is | kts_exm)
    (case xi_NoCycle_NoCycle => first | k_is | kit_is)
    (case xi_NoCycle_NoLine => first | k_is | kit_is)
    (case xi_NoCycle_NoLooks => first | k_is | kit_is)
    (case xi_NoCycle_NoRate => first | k_is | kit_is)
    (case xi_NoCycle_NoReading => first | k_is | kit_is)
    (case xi_NoCycle_NoWidth => first | k_is | kit_is)
    (case xi_NoCycle_ValueError => first | k_is | kit_is)
    (case xc_NoCycle => constructor <;> k_is)
    (case xm_NoRate_KernelError => first | k_is | kts_exm)
    (case xi_NoRate_NoCycle => first | k_is | kit_is)
    (case xi_NoRate_NoLine => first | k_is | kit_is)
    (case xi_NoRate_NoLooks => first | k_is | kit_is)
    (case xi_NoRate_NoRate => first | k_is | kit_is)
    (case xi_NoRate_NoReading => first | k_is | kit_is)
    (case xi_NoRate_NoWidth => first | k_is | kit_is)
    (case xi_NoRate_ValueError => first | k_is | kit_is)
    (case xc_NoRate => constructor <;> k_is)
    (case xm_NoReading_KernelError => first | k_is | kts_exm)
    (case xi_NoReading_NoCycle => first | k_is | kit_is)
    (case xi_NoReading_NoLine => first | k_is | kit_is)
    (case xi_NoReading_NoLooks => first | k_is | kit_is)
    (case xi_NoReading_NoRate => first | k_is | kit_is)
    (case xi_NoReading_NoReading => first | k_is | kit_is)
    (case xi_NoReading_NoWidth => first | k_is | kit_is)
    (case xi_NoReading_ValueError => first | k_is | kit_is)
    (case xc_NoReading => constructor <;> k_is)
    (case xm_NoWidth_KernelError => first | k_is | kts_exm)
    (case xi_NoWidth_NoCycle => first | k_is | kit_is)
    (case xi_NoWidth_NoLine => first | k_is | kit_is)
    (case xi_NoWidth_NoLooks => first | k_is | kit_is)
    (case xi_NoWidth_NoRate => first | k_is | kit_is)
    (case xi_NoWidth_NoReading => first | k_is | kit_is)
    (case xi_NoWidth_NoWidth => first | k_is | kit_is)
    (case xi_NoWidth_ValueError => first | k_is | kit_is)
    (case xc_NoWidth => constructor <;> k_is)
